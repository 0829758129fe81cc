import PyProof.Rows.All
import Wide.All
import OpenK.AllK
import Wide.FinOn
import HandS.ForMost
import HandS.Wide
import HandS.IsInst
import HandS.Gcd
import HandS.TupAny
import HandS.TupMul
import HandS.Deep
import PyProof.ReprRoads
import PyProof.CallFns
import HandS.Text
import HandS.Style
import HandS.Zip
import HandS.Iter
import KE.GoesNew
import HandS.TupLe
import HandS.More
import HandS.Conv
import HandS.TupSets
import HandS.SortOrd
import HandS.SortRule
import HandS.Head0
import HandS.Head1
import HandS.Head2
import HandS.Head3
import HandS.HeadEnd
import HandS.HeadHook1
import HandS.HeadHook2
import HandS.HeadHook3
import PySem.Challenge.RW_safehelms_k03_whole_points_of_lots
set_option Elab.async false
set_option linter.all false
set_option maxRecDepth 100000
set_option autoImplicit false
set_option maxHeartbeats 4000000
namespace Rf
open PySem PySem.Spec PyProof.Rows L2
/-! ## data, stores, results -/
inductive D where
  | non | bl (b : Bool) | int (i : Int) | str (x : Str) | tup (ds : List D) | lst (ds : List D) | ro (ds : List D) | dct (kvs : List (Key × D)) | ref (n : Nat) | fn (n : Nat) | err (c : Nat) (ds : List D)
instance : Inhabited D := ⟨.non⟩
inductive O where
  | lst (ds : List D) | dct (kvs : List (Key × D)) | ins (c : Nat) (fs : List (Str × D))
instance : Inhabited O := ⟨.lst []⟩
abbrev Sto := List O
inductive R (α : Type) where
  | ok (a : α) (s : Sto) | ex (c : Nat) (ds : List D) (s : Sto) | bad
def R.bd {α β : Type} (r : R α) (f : α → Sto → R β) : R β := match r with
  | .ok a s => f a s
  | .ex c ds s => .ex c ds s
  | .bad => .bad
@[simp] theorem R.bd_ok {α β : Type} (a : α) (s : Sto) (f : α → Sto → R β) : (R.ok a s).bd f = f a s := _root_.id rfl
@[simp] theorem R.bd_ex {α β : Type} (c : Nat) (ds : List D) (s : Sto) (f : α → Sto → R β) : (R.ex c ds s).bd f = .ex c ds s := _root_.id rfl
@[simp] theorem R.bd_bad {α β : Type} (f : α → Sto → R β) : (R.bad : R α).bd f = .bad := _root_.id rfl
theorem R.bd_bd {α β γ : Type} (r : R α) (f : α → Sto → R β) (g : β → Sto → R γ) : (r.bd f).bd g = r.bd fun a s => (f a s).bd g := by cases r <;> rfl
/-- it ends rightly, with what is wanted -/
def R.wp {α : Type} (r : R α) (Q : α → Sto → Prop) : Prop := match r with
  | .ok a s => Q a s
  | _ => False
theorem R.wp_bd {α β : Type} {r : R α} {f : α → Sto → R β} {Q : β → Sto → Prop} : (r.bd f).wp Q ↔ r.wp fun a s => (f a s).wp Q := by cases r <;> exact Iff.rfl
theorem R.wp_mono {α : Type} {r : R α} {Q Q' : α → Sto → Prop} (h : r.wp Q) (k : ∀ a s, Q a s → Q' a s) : r.wp Q' := by
  cases r with
  | ok a s => exact k a s h
  | ex => exact h
  | bad => exact h
abbrev Ev := List (Option D)
/-- the meaning of an expression, a test, an argument list -/
abbrev ME := Ev → Sto → R D
abbrev MT := Ev → Sto → R Bool
abbrev MA := Ev → Sto → R (List D)
inductive Fl where
  | nx (e : Ev) | rt (d : D) | bk (e : Ev) | ct (e : Ev)
abbrev MS := Ev → Sto → R Fl
/-! ## how values stand for data: ρ tells where the store's objects lie -/
/-- a tuple (a list) that nobody writes: not one of the store's -/
def KT (K : PySem.W.Frag) (a : Addr) (xs : List V) : Prop := ∃ (o : Obj) (its : Array Value) (n : Nat), K.lookup a = some o ∧ o.cls = .type "tuple" ∧ o.data = .seq its n ∧ its.size ≤ sizeLine ∧ Vals xs its.toList
def KL (K : PySem.W.Frag) (a : Addr) (xs : List V) : Prop := ∃ (o : Obj) (its : Array Value) (n : Nat), K.lookup a = some o ∧ o.cls = .type "list" ∧ o.dict = none ∧ o.data = .seq its n ∧ its.size ≤ sizeLine ∧ Vals xs its.toList
/-- the written part, and places that no value may lie at (a comprehension's list, while it is made) -/
structure Kx where
  K : PySem.W.Frag
  ex : List Addr
/-- neither the store's nor kept apart -/
def Fr1 (K : Kx) (ρ : List Addr) (a : Addr) : Prop := a ∉ ρ ∧ a ∉ K.ex
def FT (K : Kx) (ρ : List Addr) (H : Hp) (a : Addr) (xs : List V) : Prop := (Fr1 K ρ a ∧ Rd H a (.tup xs)) ∨ KT K.K a xs
def FL (K : Kx) (ρ : List Addr) (H : Hp) (a : Addr) (xs : List V) : Prop := (Fr1 K ρ a ∧ Rd H a (.lst xs)) ∨ KL K.K a xs
theorem FT.sq {K : Kx} {ρ : List Addr} {H : Hp} {a : Addr} {xs : List V} (h : FT K ρ H a xs) : SqT K.K H a xs := by
  rcases h with ⟨_, h⟩ | h
  · exact .inl h
  · exact .inr h
theorem FL.sq {K : Kx} {ρ : List Addr} {H : Hp} {a : Addr} {xs : List V} (h : FL K ρ H a xs) : SqL K.K H a xs := by
  rcases h with ⟨_, h⟩ | h
  · exact .inl h
  · exact .inr h
/-- what is wanted of the world of a def's names: functions by number, error classes by number -/
structure Nm where
  fn : Nat → Addr → Prop
  cl : Nat → Addr → Prop
mutual
inductive Rp (K : Kx) (ρ : List Addr) (H : Hp) : V → D → Prop
  | non : Rp K ρ H .non .non
  | bl (b : Bool) : Rp K ρ H (.bl b) (.bl b)
  | int (i : Int) : Rp K ρ H (.int i) (.int i)
  | str (x : Str) : Rp K ρ H (.str x) (.str x)
  | tup {a : Addr} {xs : List V} {ds : List D} : FT K ρ H a xs → xs.length ≤ sizeLine → Rps K ρ H xs ds → Rp K ρ H (.ref a) (.tup ds)
  | lst {a : Addr} {xs : List V} {ds : List D} : Fr1 K ρ a → H a = some (.lst xs) → xs.length ≤ sizeLine → Rps K ρ H xs ds → Rp K ρ H (.ref a) (.lst ds)
  | ro {a : Addr} {xs : List V} {ds : List D} : FL K ρ H a xs → xs.length ≤ sizeLine → Rps K ρ H xs ds → Rp K ρ H (.ref a) (.ro ds)
  | ref {a : Addr} {n : Nat} : ρ[n]? = some a → Rp K ρ H (.ref a) (.ref n)
  | dct {a : Addr} : Fr1 K ρ a → H a = some (.dK []) → Rp K ρ H (.ref a) (.dct [])
inductive Rps (K : Kx) (ρ : List Addr) (H : Hp) : List V → List D → Prop
  | nil : Rps K ρ H [] []
  | cons {v : V} {vs : List V} {d : D} {ds : List D} : Rp K ρ H v d → Rps K ρ H vs ds → Rps K ρ H (v :: vs) (d :: ds)
end
/-- the heap has grown, the store's objects may have changed -/
structure Xt (ρ : List Addr) (H : Hp) (ρ' : List Addr) (H' : Hp) : Prop where
  pre : ∃ l, ρ' = ρ ++ l ∧ ∀ a ∈ l, H a = none ∧ a ∉ ρ
  keep : ∀ a o, a ∉ ρ → H a = some o → H' a = some o
theorem Xt.refl (ρ : List Addr) (H : Hp) : Xt ρ H ρ H := ⟨⟨[], by simp, fun _ h => nomatch h⟩, fun _ _ _ h => h⟩
theorem Xt.same {ρ : List Addr} {H H' : Hp} (s : Same H H') : Xt ρ H ρ H' := ⟨⟨[], by simp, fun _ h => nomatch h⟩, fun _ _ _ h => s _ _ h⟩
theorem Xt.out {ρ ρ1 : List Addr} {H H1 : Hp} (x : Xt ρ H ρ1 H1) {a : Addr} {o : HO} (h1 : a ∉ ρ) (h2 : H a = some o) : a ∉ ρ1 := fun h3 => by
  obtain ⟨⟨l, e, hl⟩, k⟩ := x
  rw [e] at h3
  rcases List.mem_append.mp h3 with h | h
  · exact h1 h
  · rw [(hl a h).1] at h2; cases h2
theorem Xt.trans {ρ ρ1 ρ2 : List Addr} {H H1 H2 : Hp} (x : Xt ρ H ρ1 H1) (y : Xt ρ1 H1 ρ2 H2) : Xt ρ H ρ2 H2 := by
  have nin : ∀ a o, a ∉ ρ → H a = some o → a ∉ ρ1 := fun a o h1 h2 => x.out h1 h2
  obtain ⟨⟨l, e, hl⟩, k⟩ := x
  obtain ⟨⟨l', e', hl'⟩, k'⟩ := y
  refine ⟨⟨l ++ l', by rw [e', e, List.append_assoc], fun a ha => ?_⟩, fun a o h1 h2 => k' a o (nin a o h1 h2) (k a o h1 h2)⟩
  rcases List.mem_append.mp ha with h | h
  · exact hl a h
  · have q : a ∉ ρ := fun z => (hl' a h).2 (by rw [e]; exact List.mem_append_left _ z)
    refine ⟨?_, q⟩
    cases z : H a with
    | none => rfl
    | some o => exact absurd (k a o q z) (by rw [(hl' a h).1]; exact nofun)
theorem Xt.get {ρ ρ' : List Addr} {H H' : Hp} (x : Xt ρ H ρ' H') {n : Nat} {a : Addr} (h : ρ[n]? = some a) : ρ'[n]? = some a := by
  obtain ⟨⟨l, e, _⟩, _⟩ := x
  rw [e, List.getElem?_append_left (List.getElem?_eq_some_iff.mp h).1]
  exact h
section
variable {K : Kx} {ρ ρ' : List Addr} {H H' : Hp}
theorem Xt.rd (x : Xt ρ H ρ' H') {a : Addr} {u : HO} (n : Fr1 K ρ a) (h : Rd H a u) : Fr1 K ρ' a ∧ Rd H' a u := by
  rcases h with h | ⟨o, h⟩
  · exact ⟨⟨x.out n.1 h, n.2⟩, .inl (x.keep _ _ n.1 h)⟩
  · exact ⟨⟨x.out n.1 h, n.2⟩, .inr ⟨o, x.keep _ _ n.1 h⟩⟩
theorem FT.xt (x : Xt ρ H ρ' H') {a : Addr} {xs : List V} (h : FT K ρ H a xs) : FT K ρ' H' a xs := by
  rcases h with ⟨n, h⟩ | h
  · exact .inl (x.rd n h)
  · exact .inr h
theorem FL.xt (x : Xt ρ H ρ' H') {a : Addr} {xs : List V} (h : FL K ρ H a xs) : FL K ρ' H' a xs := by
  rcases h with ⟨n, h⟩ | h
  · exact .inl (x.rd n h)
  · exact .inr h
mutual
theorem Rp.xt (x : Xt ρ H ρ' H') : ∀ (d : D) (v : V), Rp K ρ H v d → Rp K ρ' H' v d
  | _, _, .non => .non
  | _, _, .bl b => .bl b
  | _, _, .int i => .int i
  | _, _, .str y => .str y
  | .tup ds, _, .tup h z r => .tup (h.xt x) z (Rps.xt x ds _ r)
  | .lst ds, _, .lst n h z r => .lst ⟨x.out n.1 h, n.2⟩ (x.keep _ _ n.1 h) z (Rps.xt x ds _ r)
  | .ro ds, _, .ro h z r => .ro (h.xt x) z (Rps.xt x ds _ r)
  | _, _, .ref h => .ref (x.get h)
  | _, _, .dct n h => .dct ⟨x.out n.1 h, n.2⟩ (x.keep _ _ n.1 h)
theorem Rps.xt (x : Xt ρ H ρ' H') : ∀ (ds : List D) (vs : List V), Rps K ρ H vs ds → Rps K ρ' H' vs ds
  | [], _, .nil => .nil
  | d :: ds, _, .cons h r => .cons (Rp.xt x d _ h) (Rps.xt x ds _ r)
end
theorem Rps.length : ∀ {vs : List V} {ds : List D}, Rps K ρ H vs ds → vs.length = ds.length
  | [], [], .nil => rfl
  | _ :: _, _ :: _, .cons _ r => by rw [List.length_cons, List.length_cons, r.length]
theorem Rps.get : ∀ {vs : List V} {ds : List D} {i : Nat} {d : D}, Rps K ρ H vs ds → ds[i]? = some d → ∃ v, vs[i]? = some v ∧ Rp K ρ H v d
  | _, _, _, _, .nil, e => by simp at e
  | _, _, 0, _, .cons h _, e => by simp at e; subst e; exact ⟨_, rfl, h⟩
  | _, _, i + 1, d, .cons _ r, e => by
    obtain ⟨v, h1, h2⟩ := Rps.get (i := i) (d := d) r (by simpa using e)
    exact ⟨v, by simpa using h1, h2⟩
theorem Rps.app : ∀ {vs ws : List V} {ds es : List D}, Rps K ρ H vs ds → Rps K ρ H ws es → Rps K ρ H (vs ++ ws) (ds ++ es)
  | _, _, _, _, .nil, s => s
  | _, _, _, _, .cons h r, s => .cons h (r.app s)
theorem Rps.split : ∀ {ds es : List D} {vs : List V}, Rps K ρ H vs (ds ++ es) → ∃ v1 v2, vs = v1 ++ v2 ∧ Rps K ρ H v1 ds ∧ Rps K ρ H v2 es
  | [], _, vs, h => ⟨[], vs, rfl, .nil, h⟩
  | _ :: ds, es, _, .cons h r => by
    obtain ⟨v1, v2, e, r1, r2⟩ := Rps.split (ds := ds) (es := es) r
    exact ⟨_ :: v1, v2, by rw [e]; rfl, .cons h r1, r2⟩
theorem Rps.take : ∀ {vs : List V} {ds : List D} (n : Nat), Rps K ρ H vs ds → Rps K ρ H (vs.take n) (ds.take n)
  | _, _, 0, _ => .nil
  | _, _, _ + 1, .nil => .nil
  | _, _, n + 1, .cons h r => .cons h (Rps.take n r)
theorem Rps.drop : ∀ {vs : List V} {ds : List D} (n : Nat), Rps K ρ H vs ds → Rps K ρ H (vs.drop n) (ds.drop n)
  | _, _, 0, r => r
  | _, _, _ + 1, .nil => .nil
  | _, _, n + 1, .cons _ r => Rps.drop n r
theorem Rps.set {v : V} {d : D} (h : Rp K ρ H v d) : ∀ {vs : List V} {ds : List D} (n : Nat), Rps K ρ H vs ds → Rps K ρ H (vs.set n v) (ds.set n d)
  | _, _, _, .nil => .nil
  | _, _, 0, .cons _ r => .cons h r
  | _, _, n + 1, .cons q r => .cons q (Rps.set h n r)
theorem Rps.rev {vs : List V} {ds : List D} (h : Rps K ρ H vs ds) : Rps K ρ H vs.reverse ds.reverse := by
  have all : ∀ {vs : List V} {ds : List D}, Rps K ρ H vs ds → ∀ {ws : List V} {es : List D}, Rps K ρ H ws es → Rps K ρ H (vs.reverseAux ws) (ds.reverseAux es) := by
    intro vs
    induction vs with
    | nil => intro ds h ws es r; cases h; exact r
    | cons v vs ih => intro ds h ws es r; cases h with | cons q t => exact ih t (.cons q r)
  exact all h .nil
theorem Rps.rep {v : V} {d : D} (h : Rp K ρ H v d) : ∀ n : Nat, Rps K ρ H (List.replicate n v) (List.replicate n d)
  | 0 => .nil
  | n + 1 => .cons h (Rps.rep h n)
theorem Rps.repl {vs : List V} {ds : List D} (h : Rps K ρ H vs ds) : ∀ n : Nat, Rps K ρ H (List.replicate n vs).flatten (List.replicate n ds).flatten
  | 0 => .nil
  | n + 1 => by rw [List.replicate_succ, List.replicate_succ, List.flatten_cons, List.flatten_cons]; exact h.app (h.repl n)
theorem Rps.erase : ∀ {vs : List V} {ds : List D} (n : Nat), Rps K ρ H vs ds → Rps K ρ H (vs.eraseIdx n) (ds.eraseIdx n)
  | _, _, _, .nil => .nil
  | _, _, 0, .cons _ r => r
  | _, _, n + 1, .cons h r => .cons h (Rps.erase n r)
theorem Rps.dropLast {vs : List V} {ds : List D} (h : Rps K ρ H vs ds) : Rps K ρ H vs.dropLast ds.dropLast := by
  rw [List.dropLast_eq_take, List.dropLast_eq_take, h.length]
  exact h.take _
theorem Rps.ints : ∀ {vs : List V} {ns : List Int}, Rps K ρ H vs (ns.map D.int) → vs = ns.map V.int
  | _, [], .nil => rfl
  | _, n :: ns, .cons (.int _) r => by rw [List.map_cons, ← Rps.ints (ns := ns) r]
theorem Rps.of_ints : ∀ (ns : List Int), Rps K ρ H (ns.map V.int) (ns.map D.int)
  | [] => .nil
  | n :: ns => .cons (.int n) (Rps.of_ints ns)
theorem Rps.bls : ∀ {vs : List V} {ns : List Bool}, Rps K ρ H vs (ns.map D.bl) → vs = ns.map V.bl
  | _, [], .nil => rfl
  | _, n :: ns, .cons (.bl _) r => by rw [List.map_cons, ← Rps.bls (ns := ns) r]
theorem Rps.strs : ∀ {vs : List V} {ns : List Str}, Rps K ρ H vs (ns.map D.str) → vs = ns.map V.str
  | _, [], .nil => rfl
  | _, n :: ns, .cons (.str _) r => by rw [List.map_cons, ← Rps.strs (ns := ns) r]
theorem nodupIx {l : List Addr} (h : l.Nodup) {i j : Nat} {x : Addr} (a : l[i]? = some x) (b : l[j]? = some x) : i = j := by
  obtain ⟨h1, e1⟩ := List.getElem?_eq_some_iff.mp a
  obtain ⟨h2, e2⟩ := List.getElem?_eq_some_iff.mp b
  exact (List.getElem_inj h).mp (e1.trans e2.symm)
/-! ## the store -/
/-- what lies where the store says -/
def Ob (K : Kx) (ρ : List Addr) (H : Hp) (a : Addr) : O → Prop
  | .lst ds => ∃ xs, H a = some (.lst xs) ∧ xs.length ≤ sizeLine ∧ Rps K ρ H xs ds
  | .dct _ => False
  | .ins _ _ => False
structure Hr (K : Kx) (ρ : List Addr) (H : Hp) (st : Sto) : Prop where
  len : ρ.length = st.length
  nd : ρ.Nodup
  exl : ∀ a ∈ K.ex, ∃ o, H a = some o
  exd : ∀ a ∈ K.ex, a ∉ ρ
  ob : ∀ (n : Nat) (a : Addr) (o : O), ρ[n]? = some a → st[n]? = some o → Ob K ρ H a o
theorem Ob.there {a : Addr} {o : O} (h : Ob K ρ H a o) : ∃ u, H a = some u := by
  cases o with
  | lst ds => obtain ⟨xs, e, _⟩ := h; exact ⟨_, e⟩
  | dct => exact h.elim
  | ins => exact h.elim
theorem Hr.there {st : Sto} (h : Hr K ρ H st) {a : Addr} (ha : a ∈ ρ) : ∃ u, H a = some u := by
  obtain ⟨n, hn, e⟩ := List.getElem_of_mem ha
  have hn' : n < st.length := by rw [← h.len]; exact hn
  exact (h.ob n a st[n] (by rw [List.getElem?_eq_getElem hn, e]) (List.getElem?_eq_getElem hn')).there
theorem Hr.new {st : Sto} (h : Hr K ρ H st) {p : Addr} (hp : H p = none) : Fr1 K ρ p := by
  refine ⟨fun ha => ?_, fun ha => ?_⟩
  · obtain ⟨u, e⟩ := h.there ha
    rw [hp] at e; cases e
  · obtain ⟨u, e⟩ := h.exl p ha
    rw [hp] at e; cases e
theorem Ob.xt (x : Xt ρ H ρ' H') {a : Addr} {o : O} (e : H' a = H a) (h : Ob K ρ H a o) : Ob K ρ' H' a o := by
  cases o with
  | lst ds => obtain ⟨xs, q, z, r⟩ := h; exact ⟨xs, by rw [e]; exact q, z, Rps.xt x _ _ r⟩
  | dct => exact h
  | ins => exact h
/-- only growth -/
theorem Hr.same {st : Sto} (h : Hr K ρ H st) (s : Same H H') : Hr K ρ H' st := ⟨h.len, h.nd, fun a ha => let ⟨o, e⟩ := h.exl a ha; ⟨o, s _ _ e⟩, h.exd, fun n a o e1 e2 => by
  have q := h.ob n a o e1 e2
  obtain ⟨u, hu⟩ := q.there
  exact q.xt (.same s) (by rw [hu, s _ _ hu])⟩
theorem same_upd {p : Addr} {o : HO} (hp : H p = none) : Same H (upd H p o) := fun b u e => by rw [upd_ne (ne_of_none e hp)]; exact e
/-- a new object of the store -/
theorem Hr.push {st : Sto} (h : Hr K ρ H st) {p : Addr} {u : HO} {o : O} (hp : H p = none) (q : ∀ ρ' H', Xt ρ H ρ' H' → H' p = some u → Ob K ρ' H' p o) : Hr K (ρ ++ [p]) (upd H p u) (st ++ [o]) ∧ Xt ρ H (ρ ++ [p]) (upd H p u) := by
  have np := (h.new hp).1
  have x : Xt ρ H (ρ ++ [p]) (upd H p u) := ⟨⟨[p], rfl, fun a ha => by
    have e : a = p := by simpa using ha
    subst e; exact ⟨hp, np⟩⟩, fun a v _ e => same_upd hp _ _ e⟩
  refine ⟨⟨by simp [h.len], ?_, fun a ha => let ⟨v, e⟩ := h.exl a ha; ⟨v, same_upd hp _ _ e⟩, fun a ha hm => ?_, fun n a v e1 e2 => ?_⟩, x⟩
  · rw [List.nodup_append]
    exact ⟨h.nd, by simp, fun a ha b hb e => by
      have e' : b = p := by simpa using hb
      subst e' e; exact np ha⟩
  · rcases List.mem_append.mp hm with z | z
    · exact h.exd a ha z
    · have e : a = p := by simpa using z
      subst e
      exact (h.new hp).2 ha
  · by_cases hn : n < ρ.length
    · rw [List.getElem?_append_left hn] at e1
      rw [List.getElem?_append_left (by rw [← h.len]; exact hn)] at e2
      have w := h.ob n a v e1 e2
      obtain ⟨t, ht⟩ := w.there
      exact w.xt x (by rw [ht, same_upd hp _ _ ht])
    · have h1 : n = ρ.length := by
        have := (List.getElem?_eq_some_iff.mp e1).1
        simp at this; omega
      subst h1
      simp at e1
      rw [h.len] at e2
      simp at e2
      subst e1 e2
      exact q _ _ x upd_same
/-- an object of the store is changed -/
theorem Hr.put {st : Sto} (h : Hr K ρ H st) {n : Nat} {a : Addr} {u : HO} {o : O} (ha : ρ[n]? = some a) (q : ∀ ρ' H', Xt ρ H ρ' H' → H' a = some u → Ob K ρ' H' a o) : Hr K ρ (upd H a u) (st.set n o) ∧ Xt ρ H ρ (upd H a u) := by
  have am : a ∈ ρ := List.mem_of_getElem? ha
  have x : Xt ρ H ρ (upd H a u) := ⟨⟨[], by simp, fun _ h => nomatch h⟩, fun b v nb e => by rw [upd_ne (fun z => nb (by rw [z]; exact am))]; exact e⟩
  refine ⟨⟨by simp [h.len], h.nd, fun b hb => ?_, h.exd, fun m b v e1 e2 => ?_⟩, x⟩
  · obtain ⟨v, e⟩ := h.exl b hb
    exact ⟨v, by rw [upd_ne (fun z => h.exd b hb (by rw [z]; exact am))]; exact e⟩
  by_cases e : m = n
  · subst e
    rw [ha] at e1; cases e1
    have hl := (List.getElem?_eq_some_iff.mp e2).1
    rw [List.getElem?_set_self (by simpa using hl)] at e2
    cases e2
    exact q _ _ x upd_same
  · rw [List.getElem?_set_ne (Ne.symm e)] at e2
    have nb : b ≠ a := fun z => by
      subst z
      exact e (nodupIx h.nd e1 ha)
    exact (h.ob m b v e1 e2).xt x (upd_ne nb)
/-- what is kept apart may be let go -/
structure Lss (K K' : Kx) : Prop where
  k : K'.K = K.K
  s : ∀ a, a ∈ K'.ex → a ∈ K.ex
theorem Lss.ft {K' : Kx} (l : Lss K K') {a : Addr} {xs : List V} (h : FT K ρ H a xs) : FT K' ρ H a xs := h.imp (fun z => ⟨⟨z.1.1, fun q => z.1.2 (l.s _ q)⟩, z.2⟩) fun z => by rw [l.k]; exact z
theorem Lss.fl {K' : Kx} (l : Lss K K') {a : Addr} {xs : List V} (h : FL K ρ H a xs) : FL K' ρ H a xs := h.imp (fun z => ⟨⟨z.1.1, fun q => z.1.2 (l.s _ q)⟩, z.2⟩) fun z => by rw [l.k]; exact z
mutual
theorem Rp.less {K' : Kx} (l : Lss K K') : ∀ (d : D) (v : V), Rp K ρ H v d → Rp K' ρ H v d
  | _, _, .non => .non
  | _, _, .bl b => .bl b
  | _, _, .int i => .int i
  | _, _, .str y => .str y
  | .tup ds, _, .tup h z r => .tup (l.ft h) z (Rps.less l ds _ r)
  | .lst ds, _, .lst n h z r => .lst ⟨n.1, fun q => n.2 (l.s _ q)⟩ h z (Rps.less l ds _ r)
  | .ro ds, _, .ro h z r => .ro (l.fl h) z (Rps.less l ds _ r)
  | _, _, .ref h => .ref h
  | _, _, .dct n h => .dct ⟨n.1, fun q => n.2 (l.s _ q)⟩ h
theorem Rps.less {K' : Kx} (l : Lss K K') : ∀ (ds : List D) (vs : List V), Rps K ρ H vs ds → Rps K' ρ H vs ds
  | [], _, .nil => .nil
  | d :: ds, _, .cons h r => .cons (Rp.less l d _ h) (Rps.less l ds _ r)
end
end
end Rf
set_option maxHeartbeats 4000000
namespace Rf
open PySem PySem.Spec PyProof.Rows L2
/-! ## a def's promise, called where no text of a container is being made -/
def Gq (A : Around) : Prop := A.guards = some []
structure Fg (P : Program) (w : World) (K : PySem.W.Frag) (mg : Str → Option Value) (base : Heap) (k : Nat) (f : Addr) (fd : FuncData) (ps : List Str) (sp : List V → Hp → VK → Prop) : Prop where
  len : ∀ vs H Q, sp vs H Q → vs.length = ps.length
  run : ∀ (A : Around) (outer : List Env) (s : Shared) (H : Hp) (args : Args) (us : List Value) (vs : List V) (Q : VK), Gq A → Room k A → Env0 P w K mg base A outer s H →
    BindsTo s fd args (ps.zip us) → Vals vs us → sp vs H Q → codeAny (model P w) A (.call (.ref f) args) (CR CX0 outer P w H s Q E0) s
section
variable {X : Cx} {k : Nat} {f : Addr} {fd : FuncData} {ps ks : List Str} {sp : List V → Hp → VK → Prop}
/-- the call of a def's object, its arguments bound in some way -/
theorem Fg.go {pins : List (Addr × Obj)} {σ : L2.St} {H : Hp} {s : Shared} {Q : VK} {us ws : List Value} {vs : List V} {kw : List (Str × Value)} (F : Fg X.prog X.w X.K X.mg X.base k f fd ps sp)
    (hg : Gq X.A) (hr : Room k X.A) (hb : BindsTo s fd ⟨us, kw⟩ (ps.zip ws)) (I : Inv X pins σ H s) (r : Vals vs ws) (h : sp vs H Q) :
    wpAny (model X.prog X.w) X.A (call (.ref f) us kw) (EP X pins σ Q) X.xe s := by
  have go := F.run X.A X.stack s H ⟨us, kw⟩ ws vs Q hg hr I.env0 hb r h
  exact wpAny_call (codeAny_mono go fun res s' z => match res, z with
    | .ok (.ret u), z => I.after z
    | .ok .next, z => z.elim
    | .ok .brk, z => z.elim
    | .ok .cont, z => z.elim
    | .error e, z => z.elim)
end
/-- a def's body: what its text does is what it promises -/
theorem Fg.body {P : Program} {w : World} {K : PySem.W.Frag} {mg : Str → Option Value} {base : Heap} {x qual : Str} {k : Nat} {f : Addr} {N ps : List Str} {params : Arguments} {stm : List Stmt} {sc : Scope}
    {dV kV doc pm cdv ct oc : Value} {an od : Option Addr} {osl : Array (Option Value)} {sp : List V → Hp → VK → Prop}
    (lk : K.lookup f = some ⟨oc, od, .func (PySem.W.fnOf x qual params stm sc dV kV doc pm an cdv ct), osl⟩) (hcd : PySem.W.codeIn K cdv qual = true)
    (S : FnScope N ps sc) (len : ∀ vs H Q, sp vs H Q → vs.length = ps.length)
    (hb : ∀ (A : Around) (outer : List Env) (s : Shared) (H : Hp) (vs : List V) (Q : VK), Gq A → Room k (A.deeper (envOfC qual sc s.heap.objs.size f cdv)) → sp vs H Q →
      ∃ t, PSs (cxOf CX0 P w K mg base N qual sc f cdv A outer s H E0).nox stm t ∧ t { nx := fun _ H' => Q .non H', rt := Q } (start N vs) H) :
    Fg P w K mg base (k + 1) f (PySem.W.fnOf x qual params stm sc dV kV doc pm an cdv ct) ps sp where
  len := len
  run := fun A outer s H args us vs Q hg hr e0 hbn r hsp => by
    have old : ∀ b o, base.get? b = some o → s.heap.get? b = some o := fun b o e => (e0.bs b o e).1
    have KX := e0.mod.kin.keeps old
    have kinds : ∀ y ∈ ps.zip us, sc.names.lookup y.1 = some .local ∨ (sc.names.lookup y.1 = some .cell ∧ ((cellsFrom (s.heap.objs.size + 1) sc.names []).lookup y.1).isSome = true) := by
      rintro ⟨n, v⟩ hy
      exact (S.par n (List.of_mem_zip hy).1).imp id fun q => ⟨q, PySem.W.cellsFrom_some _ _ _ (.inl q)⟩
    refine codeAny_call_function hr.depth (KX _ _ lk) rfl S.co S.gen rfl (PySem.W.codeRec_of KX hcd) (hbn _ _ _ _ (wpAny_newFunctionEnv_cells S.kind kinds fun env he s1 ic => ?_))
    subst he
    refine ⟨(e0.mod.nolimit.keeps old).keeps ic.toInCall.keep, codeAny_func ?_⟩
    obtain ⟨t, ht, hq⟩ := hb A outer s H vs Q hg (hr.deeper _) hsp
    have I := inv_start (CX := CX0) (E := E0) S hr.hd e0 (len _ _ _ hsp) r ic
    refine wpAny_mono (ht.nox.run [] s1 (start N vs) H _ I hq) (fun fl s' z => ?_) fun _ _ z => z
    match fl, z with
    | .ret u, ⟨v, σ', H', J, rv, q⟩ => exact ⟨v, H', J.os, J.bare, J.base, J.hok, rv, q⟩
    | .next, ⟨σ', H', J, q⟩ => exact ⟨.non, H', J.os, J.bare, J.base, J.hok, rfl, q⟩
    | .brk, ⟨_, _, _, q⟩ => exact q.elim
    | .cont, ⟨_, _, _, q⟩ => exact q.elim
/-- the law's call from its promise -/
theorem Fg.law {P : Program} {w : World} {K : PySem.W.Frag} {mg mb : Str → Option Value} {k : Nat} {fa a : Addr} {fd : FuncData} {x : Str} {sp : List V → Hp → VK → Prop} {s : Shared} {vs : List Value} {ns : List Int}
    (KX : K.In s.heap) (hns : s.heap.Ns mainGlobals mg) (hb : s.heap.Ns builtinsNs mb) (hbb : ∀ x : Str, x ≠ "__name__" → mb x = bootBuiltins x) (hlim : s.heap.NoLimit) (hg : s.gens = #[])
    (ha : s.heap.get? a = some { cls := .type "list", data := .seq vs.toArray }) (hi : IntsAre vs ns) (hl : ns.length ≤ sizeLine) (hr : Room k callerA)
    (F : ∀ base : Heap, K.In base → base.Ns mainGlobals mg → Fg P w K mg base k fa fd [x] sp) (hbind : ∀ (s : Shared) (u : Value), BindsTo s fd ⟨[u], []⟩ [(x, u)])
    (hsp : ∀ H : Hp, Only H → SqL K H a (ns.map V.int) → sp [.ref a] H (fun v _ => v = .bl true)) :
    codeAny (model P w) callerA (.call (.ref fa) ⟨[.ref a], []⟩) (fun r s' => r = .ok (.ret (.bool true)) ∧ OldK s.heap s'.heap ∧ s'.os = s.os ∧ AllBare s'.gens) s := by
  have rv := vals_ints hi
  -- one abstract heap, in which nothing stands but the script, if it is no object of the module
  have main : ∀ H : Hp, Only H → SqL K H a (ns.map V.int) → HOk P w H s.heap → (∀ b u, H b = some u → b = a ∧ K.lookup a = none) →
      codeAny (model P w) callerA (.call (.ref fa) ⟨[.ref a], []⟩) (fun r s' => r = .ok (.ret (.bool true)) ∧ OldK s.heap s'.heap ∧ s'.os = s.os ∧ AllBare s'.gens) s := by
    intro H hO hS hok hA
    have clear : ∀ b, (∀ u, H b = some u → False) → H b = none := fun b h => by
      cases q : H b with
      | none => rfl
      | some u => exact (h u q).elim
    have nsK : ∀ {b : Addr} {m : Str → Option Value}, s.heap.Ns b m → (hidT s.heap H).Ns b m := by
      rintro b m ⟨o, es, ep, e, d, rest⟩
      refine ⟨o, es, ep, hidT_get e (clear b fun u q => ?_), d, rest⟩
      obtain ⟨e', _⟩ := hA b u q
      rw [e', ha] at e
      cases e
      exact nomatch (d : Data.seq vs.toArray _ = Data.dict es ep)
    have kin : K.In (hidT s.heap H) := fun b o e => hidT_get (KX b o e) (clear b fun u q => by
      obtain ⟨e', e2⟩ := hA b u q
      rw [e', e2] at e
      cases e)
    obtain ⟨mc, m1, m2⟩ := hlim
    have e0 : Env0 P w K mg (hidT s.heap H) callerA [] s H :=
      { frames := rfl, mod := ⟨kin, nsK hns, ⟨mb, nsK hb, hbb⟩, ⟨mc, nsK m1, m2⟩⟩, bs := fun b o e => of_hidT e, bsz := Nat.le_of_eq (hidT_size _ _), funs := trivial,
        frf := (fun b h => (nomatch (h : b ∈ ([] : List Addr)))), hok := hok, bare := .of_eq hg }
    refine codeAny_mono ((F _ kin (nsK hns)).run callerA [] s H ⟨[.ref a], []⟩ [.ref a] [.ref a] _ rfl hr e0 (hbind s (.ref a)) (.cons rfl .nil) (hsp H hO hS)) fun r s' z => ?_
    match r, z with
    | .error e, z => exact z.elim
    | .ok .next, z => exact z.elim
    | .ok .brk, z => exact z.elim
    | .ok .cont, z => exact z.elim
    | .ok (.ret u), ⟨v, H', os, bare, un, hok', r', q⟩ =>
      have q2 : v = .bl true := q
      subst q2
      have q3 : u = Value.bool true := r'
      subst q3
      refine ⟨rfl, OldK.of_keep fun b o e => ?_, os, bare⟩
      rcases hO b with z | ⟨ob, xs, z⟩
      · exact un.keep b o e z (fun h => nomatch (h : b ∈ ([] : List Addr))) (fun h => nomatch h)
      · have h1 : s.heap.get? b = some ob := (hok b _ z).1
        have h2 : s'.heap.get? b = some ob := (hok' b _ (un.frzs b ob _ z)).1
        rw [e] at h1
        rw [h2, h1]
  cases hk : K.lookup a with
  | some o =>
    have e := KX a o hk
    rw [ha] at e
    cases e
    exact main (fun _ => none) (fun _ => .inl rfl) (.inr ⟨_, vs.toArray, _, hk, rfl, rfl, rfl, by simpa [hi.length] using hl, by simpa using rv⟩) (fun _ _ z => nomatch (z : (none : Option HO) = some _))
      fun _ _ z => nomatch (z : (none : Option HO) = some _)
  | none =>
    have at_ : ∀ (b : Addr) (u : HO), (if b = a then some (HO.frz { cls := .type "list", data := .seq vs.toArray } (.lst (ns.map V.int))) else none) = some u → b = a ∧ u = .frz { cls := .type "list", data := .seq vs.toArray } (.lst (ns.map V.int)) := by
      intro b u z
      by_cases hb : b = a
      · rw [if_pos hb] at z
        exact ⟨hb, (Option.some.inj z).symm⟩
      · rw [if_neg hb] at z
        cases z
    refine main (fun b => if b = a then some (.frz { cls := .type "list", data := .seq vs.toArray } (.lst (ns.map V.int))) else none) (fun b => ?_) (.inl (.inr ⟨_, if_pos rfl⟩)) (fun b u z => ?_) fun b u z => ⟨(at_ b u z).1, hk⟩
    · by_cases hb : b = a
      · exact .inr ⟨_, _, if_pos hb⟩
      · exact .inl (if_neg hb)
    · obtain ⟨rfl, rfl⟩ := at_ b u z
      exact ⟨ha, by simpa using hl, vs, _, rv, ha⟩
/-- the goal behind k_head -/
theorem Fg.walk {l : PySem.W.OpenLaw} {n k : Nat} {q : Program} {loose : List Str} {XP : (Str → Option Value) → Heap → Prop} {YP : World → Heap → Prop} {d : DefRec} {K : Params → PySem.W.Frag} {sp : PySem.W.Frag → List V → Hp → VK → Prop} {x : Str}
    (hn : l.most = some n) (hn2 : n ≤ sizeLine) (hdf : d.params.defaults = []) (hr : Room k callerA) (hY : ∀ (w : World) (h : Heap), YP w h → (K w.params).In h)
    (F : ∀ (w : World) (mg : Str → Option Value) (fa : Addr) (h : Heap), (K w.params).In h → h.Ns mainGlobals mg → mg d.name = some (.ref fa) →
      ∃ fd : FuncData, (∀ (s : Shared) (u : Value), BindsTo s fd ⟨[u], []⟩ [(x, u)]) ∧ ∀ base : Heap, (K w.params).In base → base.Ns mainGlobals mg → Fg l.prog w (K w.params) mg base k fa fd [x] (sp (K w.params)))
    (hsp : ∀ (K : PySem.W.Frag) (H : Hp) (a : Addr) (ns : List Int), ns.length ≤ n → Only H → SqL K H a (ns.map V.int) → sp K [.ref a] H (fun v _ => v = .bl true)) :
    PySem.W.WalkO q loose XP YP l.row.toRowW d [] (fun f vs => PySem.call f vs) := by
  refine Att.attach_call hn hdf fun w s₀ s₁ mg mb fa o pm cd doc a vs ns G Y ho hd hcd hmg hobj hints hlen hg => ?_
  obtain ⟨fd, hb, hF⟩ := F w mg fa _ (hY w _ Y) G.T.g hmg
  exact Fg.law (hY w _ Y) G.T.g G.T.b G.T.builtins G.T.nolimit hg hobj hints (Nat.le_trans hlen hn2) hr hF hb (fun H hO hS => hsp (K w.params) H a ns hlen hO hS)
end Rf
set_option maxHeartbeats 4000000
namespace Rf
open PySem PySem.Spec L2
open PyProof.Rows hiding St
/-! ## what may be asked of a piece of text, at its weakest -/
def RE (X : Cx) (e : Expr) : TE := fun σ H Q => ∀ (pins : List (Addr × Obj)) (s : Shared), Inv X pins σ H s → wpAny (model X.prog X.w) X.A (eval e X.env) (EP X pins σ Q) X.xe s
theorem pe_re {X : Cx} {e : Expr} : PE X e (RE X e) := ⟨fun pins s _ _ _ I h => h pins s I⟩
theorem _root_.L2.PE.re {X : Cx} {e : Expr} {t : TE} (h : PE X e t) {σ : L2.St} {H : Hp} {Q : VK} (q : t σ H Q) : RE X e σ H Q := fun pins s I => h.run pins s σ H Q I q
def RT (X : Cx) (e : Expr) : TT := fun σ H Q => ∀ (pins : List (Addr × Obj)) (s : Shared), Inv X pins σ H s → wpAny (model X.prog X.w) X.A (isTrue e X.env (eval e X.env)) (TP X pins σ Q) X.xe s
theorem pt_rt {X : Cx} {e : Expr} : PT X e (RT X e) := ⟨fun pins s _ _ _ I h => h pins s I⟩
theorem _root_.L2.PT.rt {X : Cx} {e : Expr} {t : TT} (h : PT X e t) {σ : L2.St} {H : Hp} {Q : Bool → Hp → Prop} (q : t σ H Q) : RT X e σ H Q := fun pins s I => h.run pins s σ H Q I q
def RA (X : Cx) (es : List Expr) : TA := fun σ H Q => ∀ (pos : Pos) (pins : List (Addr × Obj)) (s : Shared), Inv X pins σ H s → wpAny (model X.prog X.w) X.A (spliced (backTo pos (starEach es X.env))) (AP X pins σ Q) X.xe s
theorem pa_ra {X : Cx} {es : List Expr} : PA X es (RA X es) := ⟨fun pos pins s _ _ _ I h => h pos pins s I⟩
theorem _root_.L2.PA.ra {X : Cx} {es : List Expr} {t : TA} (h : PA X es t) {σ : L2.St} {H : Hp} {Q : List V → Hp → Prop} (q : t σ H Q) : RA X es σ H Q := fun pos pins s I => h.run pos pins s σ H Q I q
def RS (X : Cx) (ss : List Stmt) : TS := fun D σ H => ∀ (pins : List (Addr × Obj)) (s : Shared), Inv X pins σ H s → wpAny (model X.prog X.w) X.A (execs ss X.env) (SP X pins D) X.xe s
theorem pss_rs {X : Cx} {ss : List Stmt} : PSs X ss (RS X ss) := ⟨fun pins s _ _ _ I h => h pins s I⟩
theorem _root_.L2.PSs.rs {X : Cx} {ss : List Stmt} {t : TS} (h : PSs X ss t) {σ : L2.St} {H : Hp} {D : Ends} (q : t D σ H) : RS X ss D σ H := fun pins s I => h.run pins s σ H D I q
def RX (X : Cx) (st : Stmt) : TS := fun D σ H => ∀ (pins : List (Addr × Obj)) (s : Shared), Inv X pins σ H s → wpAny (model X.prog X.w) X.A (exec st X.env) (SP X pins D) X.xe s
theorem ps_rx {X : Cx} {st : Stmt} : PS X st (RX X st) := ⟨fun pins s _ _ _ I h => h pins s I⟩
theorem _root_.L2.PS.rx {X : Cx} {st : Stmt} {t : TS} (h : PS X st t) {σ : L2.St} {H : Hp} {D : Ends} (q : t D σ H) : RX X st D σ H := fun pins s I => h.run pins s σ H D I q
def RG (X : Cx) (tg : Expr) : TG := fun v σ H Q => ∀ (pins : List (Addr × Obj)) (s : Shared) (u : Value), Inv X pins σ H s → RelV v u → wpAny (model X.prog X.w) X.A (assign tg X.env u) (fun _ s' => ∃ σ' H', Inv X pins σ' H' s' ∧ Q σ' H') X.xe s
theorem pg_rg {X : Cx} {tg : Expr} : PG X tg (RG X tg) := ⟨fun pins s _ _ _ u _ I r h => h pins s u I r⟩
theorem _root_.L2.PG.rg {X : Cx} {tg : Expr} {t : TG} (h : PG X tg t) {v : V} {σ : L2.St} {H : Hp} {Q : L2.St → Hp → Prop} (q : t v σ H Q) : RG X tg v σ H Q := fun pins s u I r => h.run pins s σ H v u Q I r q
def RGs (X : Cx) (ts : List Expr) : TGs := fun vs σ H Q => ∀ (pins : List (Addr × Obj)) (s : Shared) (us : List Value), Inv X pins σ H s → Vals vs us →
  wpAny (model X.prog X.w) X.A (assignInOrder ((assignEach ts X.env).map (·.2)) us) (fun _ s' => ∃ σ' H', Inv X pins σ' H' s' ∧ Q σ' H') X.xe s
theorem pgs_rgs {X : Cx} {ts : List Expr} : PGs X ts (RGs X ts) := ⟨fun pins s _ _ _ us _ I r h => h pins s us I r⟩
theorem _root_.L2.PGs.rgs {X : Cx} {ts : List Expr} {t : TGs} (h : PGs X ts t) {vs : List V} {σ : L2.St} {H : Hp} {Q : L2.St → Hp → Prop} (q : t vs σ H Q) : RGs X ts vs σ H Q := fun pins s us I r => h.run pins s σ H vs us Q I r q
def RI (X : Cx) (tg it : Expr) : TI := fun σ H R => ∀ (pins : List (Addr × Obj)) (s : Shared), Inv X pins σ H s → wpAny (model X.prog X.w) X.A (eval it X.env) (fun v s1 => wpAny (model X.prog X.w) X.A (pyIter v) (PIE X pins σ tg R) X.xe s1) X.xe s
theorem pi_ri {X : Cx} {tg it : Expr} : PI X tg it (RI X tg it) := ⟨fun pins s _ _ _ I h => h pins s I⟩
theorem _root_.L2.PI.ri {X : Cx} {tg it : Expr} {t : TI} (h : PI X tg it t) {σ : L2.St} {H : Hp} {R : It → Hp → Prop} (q : t σ H R) : RI X tg it σ H R := fun pins s I => h.run pins s σ H R I q
abbrev _root_.L2.Cx.kx (X : Cx) (ξ : List Addr) : Kx := ⟨X.K, ξ⟩
/-! ## the slots -/
structure Er (K : Kx) (ρ : List Addr) (H : Hp) (σ : L2.St) (env : Ev) : Prop where
  len : σ.length = env.length
  at_ : ∀ (i : Nat) (d : D), env[i]? = some (some d) → ∃ v, σ[i]? = some (some v) ∧ Rp K ρ H v d
section
variable {K : Kx} {ρ ρ' : List Addr} {H H' : Hp} {σ : L2.St} {env : Ev}
theorem Er.xt (h : Er K ρ H σ env) (x : Xt ρ H ρ' H') : Er K ρ' H' σ env := ⟨h.len, fun i d e => let ⟨v, h1, h2⟩ := h.at_ i d e; ⟨v, h1, h2.xt x⟩⟩
theorem Er.set (h : Er K ρ H σ env) {i : Nat} {v : V} {d : D} (r : Rp K ρ H v d) : Er K ρ H (σ.set i (some v)) (env.set i (some d)) := by
  refine ⟨by simp [h.len], fun j e hj => ?_⟩
  by_cases q : i = j
  · subst q
    have hl : i < env.length := by
      have := (List.getElem?_eq_some_iff.mp hj).1
      simpa using this
    rw [List.getElem?_set_self hl] at hj
    cases hj
    exact ⟨v, List.getElem?_set_self (by rw [h.len]; exact hl), r⟩
  · rw [List.getElem?_set_ne q] at hj
    obtain ⟨w, h1, h2⟩ := h.at_ j e hj
    exact ⟨w, by rw [List.getElem?_set_ne q]; exact h1, h2⟩
/-- slots are forgotten -/
theorem Er.drop (h : Er K ρ H σ env) (i : Nat) : Er K ρ H (σ.set i none) (env.set i none) := by
  refine ⟨by simp [h.len], fun j e hj => ?_⟩
  by_cases q : i = j
  · subst q
    have hl : i < env.length := by
      have := (List.getElem?_eq_some_iff.mp hj).1
      simpa using this
    rw [List.getElem?_set_self hl] at hj
    cases hj
  · rw [List.getElem?_set_ne q] at hj
    obtain ⟨w, h1, h2⟩ := h.at_ j e hj
    exact ⟨w, by rw [List.getElem?_set_ne q]; exact h1, h2⟩
end
def wipeE (env : Ev) : List Nat → Ev
  | [] => env
  | v :: vs => (wipeE env vs).set v none
theorem Er.wipe {K : Kx} {ρ : List Addr} {H : Hp} {σ : L2.St} {env : Ev} (h : Er K ρ H σ env) : ∀ vs : List Nat, Er K ρ H (wipe σ vs) (wipeE env vs)
  | [] => h
  | v :: vs => (Er.wipe h vs).drop v
/-! ## where one stands -/
/-- a def's (a block's) names: its scope, its slots, the names that may be stored to -/
structure Ci where
  sc : Scope
  N : List Str
  sb : List Str
structure Gd (X : Cx) (c : Ci) : Prop where
  hN : X.N = c.N
  hsc : X.env.scope = c.sc
  calm : X.calm = true
  nd : c.N.Nodup
  hst : ∀ x ∈ c.sb, X.fn x = true ∨ X.env.scope.names.lookup x = some .local
  xe : X.xe = fun _ _ => False
/-- whence a parameter's value comes: an argument, by place, or an int that stands in the text -/
inductive Src where
  | at (i : Nat) | int (i : Int)
  deriving DecidableEq
def Src.get (ds : List D) : Src → D
  | .at i => ds.getD i .non
  | .int i => .int i
/-- a way to call a def: its name, how many arguments by place, which by name; its number, whence its parameters come -/
structure Fi where
  nm : Str
  np : Nat
  kw : List Str
  id : Nat
  arr : List Src
  deriving DecidableEq
structure Gi where
  fs : List Fi
  cs : List (Str × D)
  gcd : Bool
  ts : List (Str × List (Str × D))
/-- a dict of the module with keys that are texts -/
def TbK (K : PySem.W.Frag) (w : World) (a : Addr) (kvs : List (Str × D)) : Prop := ∃ es n, K.lookup a = some ⟨.type "dict", none, .dict es n, #[]⟩ ∧ PySem.W.KeysLit w.params es.toList ∧ (a == sysModules) = false ∧
  ∀ x, (∀ d, kvs.lookup x = some d → ∃ u v, PySem.W.nsIn K a x = some (some u) ∧ RelV v u ∧ ∀ ξ ρ H, Rp ⟨K, ξ⟩ ρ H v d) ∧ (kvs.lookup x = none → PySem.W.nsIn K a x = some none)
abbrev Fn := Nat → List D → Sto → R D
/-- what a def's number promises -/
def spF (K : PySem.W.Frag) (F : Fn) (id np : Nat) : List V → Hp → VK → Prop := fun vs H Q => vs.length = np ∧ ∃ ξ ρ st ds, Rps ⟨K, ξ⟩ ρ H vs ds ∧ Hr ⟨K, ξ⟩ ρ H st ∧
  (F id ds st).wp fun d st' => ∀ ρ' H' v, Xt ρ H ρ' H' → Hr ⟨K, ξ⟩ ρ' H' st' → Rp ⟨K, ξ⟩ ρ' H' v d → Q v H'
structure Wf (X : Cx) (F : Fn) (e : Fi) : Prop where
  ex : ∃ (f : Addr) (fd : FuncData) (ps : List Str) (k : Nat), X.mg e.nm = some (.ref f) ∧ PySem.W.keepIn X.K (.ref f) = true ∧ Room k X.A ∧ Fg X.prog X.w X.K X.mg X.base k f fd ps (spF X.K F e.id ps.length) ∧ ps.length = e.arr.length ∧
    ∀ (s : Shared) (us ws : List Value), X.K.In s.heap → us.length = e.np → ws.length = e.kw.length → ∃ zs, BindsTo s fd ⟨us, e.kw.zip ws⟩ (ps.zip zs) ∧
      Paired (fun (a : Src) (z : Value) => match a with | .at i => (us ++ ws)[i]? = some z | .int i => ∃ t, z = .int i t) e.arr zs
def blts : List (Str × Value) := [("len", .builtin "len"), ("isinstance", .builtin "isinstance"), ("all", .builtin "all"), ("any", .builtin "any"), ("abs", .builtin "abs"), ("max", .builtin "max"), ("min", .builtin "min"), ("divmod", .builtin "divmod"),
  ("repr", .builtin "repr"), ("sum", .builtin "sum"), ("sorted", .builtin "sorted"), ("int", .type "int"), ("bool", .type "bool"), ("str", .type "str"), ("tuple", .type "tuple"), ("list", .type "list"), ("dict", .type "dict"), ("set", .type "set"), ("range", .type "range"), ("zip", .type "zip"), ("enumerate", .type "enumerate")]
structure Wd (X : Cx) (G : Gi) (F : Fn) : Prop where
  gq : Gq X.A
  room : Room 1 X.A
  fs : ∀ e ∈ G.fs, Wf X F e
  bl : ∀ p ∈ blts, X.mg p.1 = none
  cs : ∀ p ∈ G.cs, ∃ u v, X.mg p.1 = some u ∧ RelV v u ∧ ∀ ξ ρ H, Rp (X.kx ξ) ρ H v p.2
  gcd : G.gcd = true → X.mg "gcd" = some (.builtin "math.gcd")
  tb : ∀ t ∈ G.ts, ∃ a, X.mg t.1 = some (.ref a) ∧ TbK X.K X.w a t.2
/-! ## what it means that a piece of text does this -/
def SE (X : Cx) (e : Expr) (m : ME) : Prop := ∀ (ξ ρ : List Addr) (H : Hp) (σ : L2.St) (env : Ev) (st : Sto) (Q : VK), Er (X.kx ξ) ρ H σ env → Hr (X.kx ξ) ρ H st →
  (m env st).wp (fun d st' => ∀ ρ' H' v, Xt ρ H ρ' H' → Hr (X.kx ξ) ρ' H' st' → Rp (X.kx ξ) ρ' H' v d → Q v H') → RE X e σ H Q
def ST (X : Cx) (e : Expr) (m : MT) : Prop := ∀ (ξ ρ : List Addr) (H : Hp) (σ : L2.St) (env : Ev) (st : Sto) (Q : Bool → Hp → Prop), Er (X.kx ξ) ρ H σ env → Hr (X.kx ξ) ρ H st →
  (m env st).wp (fun b st' => ∀ ρ' H', Xt ρ H ρ' H' → Hr (X.kx ξ) ρ' H' st' → Q b H') → RT X e σ H Q
def SA (X : Cx) (es : List Expr) (m : MA) : Prop := ∀ (ξ ρ : List Addr) (H : Hp) (σ : L2.St) (env : Ev) (st : Sto) (Q : List V → Hp → Prop), Er (X.kx ξ) ρ H σ env → Hr (X.kx ξ) ρ H st →
  (m env st).wp (fun ds st' => ∀ ρ' H' vs, Xt ρ H ρ' H' → Hr (X.kx ξ) ρ' H' st' → Rps (X.kx ξ) ρ' H' vs ds → vs.length = es.length → Q vs H') → RA X es σ H Q
/-! ## combinators -/
def mCst (d : D) : ME := fun _ st => .ok d st
def mVar (i : Nat) : ME := fun env st => match env[i]? with
  | some (some d) => .ok d st
  | _ => .bad
abbrev Op1 := D → Sto → R D
abbrev Op2 := D → D → Sto → R D
def mOp2 (f : Op2) (a b : ME) : ME := fun env st => (a env st).bd fun x s => (b env s).bd fun y s' => f x y s'
def mOp1 (f : Op1) (a : ME) : ME := fun env st => (a env st).bd fun x s => f x s
def mNil : MA := fun _ st => .ok [] st
def mCons (a : ME) (r : MA) : MA := fun env st => (a env st).bd fun x s => (r env s).bd fun xs s' => .ok (x :: xs) s'
def mOpN (f : List D → Sto → R D) (a : MA) : ME := fun env st => (a env st).bd fun xs s => f xs s
def mIf (c : MT) (a b : ME) : ME := fun env st => (c env st).bd fun k s => if k then a env s else b env s
/-- the truth of a value -/
def truD (x : D) (s : Sto) : Option Bool := match x with
  | .non => some false
  | .bl k => some k
  | .int i => some (i != 0)
  | .str y => if y.length ≤ sizeLine then some ((y.length : Int) != 0) else none
  | .tup ds => some (!ds.isEmpty)
  | .lst ds => some (!ds.isEmpty)
  | .ro ds => some (!ds.isEmpty)
  | .ref n => match s[n]? with
    | some (.lst ds) => some (!ds.isEmpty)
    | _ => none
  | _ => none
def mTest (a : ME) : MT := fun env st => (a env st).bd fun x s => match truD x s with
  | some k => .ok k s
  | none => .bad
def mNotT (a : MT) : MT := fun env st => (a env st).bd fun k s => .ok (!k) s
def mAndT (a b : MT) : MT := fun env st => (a env st).bd fun k s => if k then b env s else .ok false s
def mOrT (a b : MT) : MT := fun env st => (a env st).bd fun k s => if k then .ok true s else b env s
def mAndV (a b : ME) : ME := fun env st => (a env st).bd fun x s => match x with
  | .bl true => b env s
  | .bl false => .ok (.bl false) s
  | _ => .bad
def mOrV (a b : ME) : ME := fun env st => (a env st).bd fun x s => match x with
  | .bl false => b env s
  | .bl true => .ok (.bl true) s
  | _ => .bad
def mNotV (a : ME) : ME := fun env st => (a env st).bd fun x s => match x with
  | .bl k => .ok (.bl (!k)) s
  | _ => .bad
section
variable {X : Cx} {c : Ci} {G : Gi} {F : Fn}
theorem se_cst {e : Expr} {d : D} {v : V} (h : PE X e (tC v)) (r : ∀ ξ ρ H, Rp (X.kx ξ) ρ H v d) : SE X e (mCst d) := fun ξ ρ H σ env st Q _ hr w => h.re (w ρ H v (.refl _ _) hr (r _ _ _))
theorem se_var {i : Nat} {x : Str} {pos : Pos} (g : Gd X c) (hi : c.N[i]? = some x) (hv : Vis c.sc x) (hd : (x == ("__debug__" : Str)) = false) (hcd : (x == ("__classdict__" : Str)) = false) : SE X (.Name x pos) (mVar i) := fun ξ ρ H σ env st Q he hr w => by
  refine (pe_var (by rw [g.hN]; exact hi) (by rw [g.hsc]; exact hv) hd hcd).re ?_
  unfold mVar at w
  split at w
  · rename_i d e
    obtain ⟨v, h1, h2⟩ := he.at_ i d e
    exact ⟨v, h1, w ρ H v (.refl _ _) hr h2⟩
  · exact w.elim
/-- two parts, one behind the other -/
theorem two {a b : Expr} {ma mb : ME} (ha : SE X a ma) (hb : SE X b mb) {f : Op2} {ξ ρ : List Addr} {H : Hp} {σ : L2.St} {env : Ev} {st : Sto} {Q : D → Sto → Prop} {Z : V → V → Hp → Prop} (he : Er (X.kx ξ) ρ H σ env) (hr : Hr (X.kx ξ) ρ H st)
    (w : (mOp2 f ma mb env st).wp Q)
    (k : ∀ x y s ρ' H' v u, Xt ρ H ρ' H' → Hr (X.kx ξ) ρ' H' s → Rp (X.kx ξ) ρ' H' v x → Rp (X.kx ξ) ρ' H' u y → (f x y s).wp Q → Z v u H') : RE X a σ H fun v H1 => RE X b σ H1 fun u H2 => Z v u H2 := by
  unfold mOp2 at w
  refine ha ξ ρ H σ env st _ he hr (R.wp_mono (R.wp_bd.mp w) fun x s w1 ρ1 H1 v x1 hr1 r1 => ?_)
  refine hb ξ ρ1 H1 σ env s _ (he.xt x1) hr1 (R.wp_mono (R.wp_bd.mp w1) fun y s2 w2 ρ2 H2 u x2 hr2 r2 => ?_)
  exact k x y s2 ρ2 H2 v u (x1.trans x2) hr2 (r1.xt x2) r2 w2
/-- an operation on two values, by the layer's rule -/
def Do2 (X : Cx) (f : Op2) (r : R2) : Prop := ∀ (x y : D) (s : Sto) (ξ ρ : List Addr) (H : Hp) (v u : V) (Q : VK), Hr (X.kx ξ) ρ H s → Rp (X.kx ξ) ρ H v x → Rp (X.kx ξ) ρ H u y →
  (f x y s).wp (fun d s' => ∀ ρ' H' v', Xt ρ H ρ' H' → Hr (X.kx ξ) ρ' H' s' → Rp (X.kx ξ) ρ' H' v' d → Q v' H') → r v u H Q
def Do1 (X : Cx) (f : Op1) (r : V → Hp → VK → Prop) : Prop := ∀ (x : D) (s : Sto) (ξ ρ : List Addr) (H : Hp) (v : V) (Q : VK), Hr (X.kx ξ) ρ H s → Rp (X.kx ξ) ρ H v x →
  (f x s).wp (fun d s' => ∀ ρ' H' v', Xt ρ H ρ' H' → Hr (X.kx ξ) ρ' H' s' → Rp (X.kx ξ) ρ' H' v' d → Q v' H') → r v H Q
def DoN (X : Cx) (f : List D → Sto → R D) (r : List V → Hp → VK → Prop) : Prop := ∀ (xs : List D) (s : Sto) (ξ ρ : List Addr) (H : Hp) (vs : List V) (Q : VK), Hr (X.kx ξ) ρ H s → Rps (X.kx ξ) ρ H vs xs →
  (f xs s).wp (fun d s' => ∀ ρ' H' v', Xt ρ H ρ' H' → Hr (X.kx ξ) ρ' H' s' → Rp (X.kx ξ) ρ' H' v' d → Q v' H') → r vs H Q
theorem se_op2 {a b : Expr} {ma mb : ME} {f : Op2} {r : R2} {e : Expr} (he : PE X e (tOp r (RE X a) (RE X b))) (ha : SE X a ma) (hb : SE X b mb) (hd : Do2 X f r) : SE X e (mOp2 f ma mb) := fun ξ ρ H σ env st Q e0 hr w =>
  he.re (two ha hb e0 hr w fun x y s ρ' H' v u x1 h1 r1 r2 w1 => hd x y s ξ ρ' H' v u Q h1 r1 r2 (R.wp_mono w1 fun d s' k ρ2 H2 v' x2 => k ρ2 H2 v' (x1.trans x2)))
theorem se_op1 {a : Expr} {ma : ME} {f : Op1} {r : V → Hp → VK → Prop} {e : Expr} (he : PE X e (tUn r (RE X a))) (ha : SE X a ma) (hd : Do1 X f r) : SE X e (mOp1 f ma) := fun ξ ρ H σ env st Q e0 hr w =>
  he.re (ha ξ ρ H σ env st _ e0 hr (R.wp_mono (R.wp_bd.mp w) fun x s w1 ρ1 H1 v x1 h1 r1 => hd x s ξ ρ1 H1 v Q h1 r1 (R.wp_mono w1 fun d s' k ρ2 H2 v' x2 => k ρ2 H2 v' (x1.trans x2))))
theorem se_opN {es : List Expr} {ma : MA} {f : List D → Sto → R D} {r : List V → Hp → VK → Prop} {e : Expr} (he : PE X e (tCB r (RA X es))) (ha : SA X es ma) (hd : DoN X f r) : SE X e (mOpN f ma) := fun ξ ρ H σ env st Q e0 hr w =>
  he.re (ha ξ ρ H σ env st _ e0 hr (R.wp_mono (R.wp_bd.mp w) fun x s w1 ρ1 H1 v x1 h1 r1 _ => hd x s ξ ρ1 H1 v Q h1 r1 (R.wp_mono w1 fun d s' k ρ2 H2 v' x2 => k ρ2 H2 v' (x1.trans x2))))
/-! ### arguments -/
def plainArg : Expr → Bool
  | .Starred .. => false
  | _ => true
theorem star_cons {e : Expr} {es : List Expr} {env : Env} (h : plainArg e = true) : starEach (e :: es) env = (false, eval e env) :: starEach es env := by
  cases e <;> first | rfl | exact nomatch h
theorem star_any {env : Env} {pos : Pos} : ∀ {es : List Expr}, es.all plainArg = true → (backTo pos (starEach es env)).any (·.1) = false
  | [], _ => rfl
  | e :: es, h => by
    rw [List.all_cons, Bool.and_eq_true] at h
    rw [star_cons h.1]
    exact star_any h.2
theorem sa_nil : SA X [] mNil := fun ξ ρ H σ env st Q _ hr w => pa_nil.ra (w ρ H [] (.refl _ _) hr .nil rfl)
theorem sa_cons {e : Expr} {es : List Expr} {ma : ME} {mr : MA} (hp : plainArg e = true) (ha : SE X e ma) (hr : SA X es mr) : SA X (e :: es) (mCons ma mr) := fun ξ ρ H σ env st Q e0 h w => by
  refine (pa_cons pe_re pa_ra (star_cons hp)).ra ?_
  refine ha ξ ρ H σ env st _ e0 h (R.wp_mono (R.wp_bd.mp w) fun x s w1 ρ1 H1 v x1 h1 r1 => ?_)
  refine hr ξ ρ1 H1 σ env s _ (e0.xt x1) h1 (R.wp_mono (R.wp_bd.mp w1) fun xs s2 w2 ρ2 H2 vs x2 h2 r2 hl => ?_)
  exact w2 ρ2 H2 (v :: vs) (x1.trans x2) h2 (.cons (r1.xt x2) r2) (by rw [List.length_cons, List.length_cons, hl])
/-! ### tests -/
theorem Rps.isEmpty {K : Kx} {ρ : List Addr} {H : Hp} {vs : List V} {ds : List D} (h : Rps K ρ H vs ds) : vs.isEmpty = ds.isEmpty := by cases h <;> rfl
theorem truD_ok {K : Kx} {ρ : List Addr} {H : Hp} {v : V} {x : D} {s : Sto} {k : Bool} (hr : Hr K ρ H s) (r : Rp K ρ H v x) (h : truD x s = some k) : TruV K.K v H k := by
  cases r with
  | non => exact (Option.some.inj h).symm
  | bl b => exact (Option.some.inj h).symm
  | int i => exact (Option.some.inj h).symm
  | str y =>
    have h' : (if y.length ≤ sizeLine then some ((y.length : Int) != 0) else none) = some k := h
    by_cases z : y.length ≤ sizeLine
    · rw [if_pos z] at h'
      exact ⟨z, (Option.some.inj h').symm⟩
    · rw [if_neg z] at h'
      cases h'
  | tup f z rs => exact .inr (.inl ⟨_, f.sq, by rw [rs.isEmpty]; exact (Option.some.inj h).symm⟩)
  | lst n f z rs => exact .inl ⟨_, SqL.of f, by rw [rs.isEmpty]; exact (Option.some.inj h).symm⟩
  | ro f z rs => exact .inl ⟨_, f.sq, by rw [rs.isEmpty]; exact (Option.some.inj h).symm⟩
  | ref hn =>
    rename_i a n
    have h' : (match s[n]? with | some (.lst ds) => some (!ds.isEmpty) | _ => none) = some k := h
    cases e : s[n]? with
    | none => rw [e] at h'; cases h'
    | some o =>
      rw [e] at h'
      cases o with
      | lst ds =>
        obtain ⟨xs, h1, h2, h3⟩ := hr.ob n a _ hn e
        exact .inl ⟨xs, SqL.of h1, by rw [h3.isEmpty]; exact (Option.some.inj h').symm⟩
      | dct => cases h'
      | ins => cases h'
  | dct n h1 => cases h
theorem st_val {e : Expr} {m : ME} (hw : ∀ whole env, isTrue e env whole = (do let v ← whole; standAt e.pos; holding [v] (truthy v))) (h : SE X e m) : ST X e (mTest m) := fun ξ ρ H σ env st Q e0 hr w => by
  refine (pt_truth pe_re (fun whole => hw whole X.env)).rt ?_
  refine h ξ ρ H σ env st _ e0 hr (R.wp_mono (R.wp_bd.mp w) fun x s w1 ρ1 H1 v x1 h1 r1 => ?_)
  split at w1
  · rename_i k e
    exact ⟨k, truD_ok h1 r1 e, w1 ρ1 H1 x1 h1⟩
  · exact w1.elim
theorem st_not {a : Expr} {m : MT} {pos : Pos} (h : ST X a m) : ST X (.UnaryOp .Not a pos) (mNotT m) := fun ξ ρ H σ env st Q e0 hr w =>
  (pt_not pt_rt).rt (h ξ ρ H σ env st _ e0 hr (R.wp_mono (R.wp_bd.mp w) fun _ _ w1 ρ1 H1 x1 h1 => w1 ρ1 H1 x1 h1))
theorem wp_test {m : ME} {env : Ev} {st : Sto} {Q : Bool → Sto → Prop} (w : (mTest m env st).wp Q) : (m env st).wp fun x s => ∀ b, x = .bl b → Q b s := by
  refine R.wp_mono (R.wp_bd.mp w) fun x s w1 b e => ?_
  subst e
  exact w1
/-- what comes to a truth is a test by its truth -/
theorem st_of {e : Expr} {m : ME} {t : TE} (hp : PT X e (tTest t)) (ht : ∀ (ξ ρ : List Addr) (H : Hp) (σ : L2.St) (env : Ev) (st : Sto) (Q : VK), Er (X.kx ξ) ρ H σ env → Hr (X.kx ξ) ρ H st →
    (m env st).wp (fun d st' => ∀ ρ' H' v, Xt ρ H ρ' H' → Hr (X.kx ξ) ρ' H' st' → Rp (X.kx ξ) ρ' H' v d → Q v H') → t σ H Q) (hb : ∀ env st x s, m env st = .ok x s → ∃ b, x = .bl b) : ST X e (mTest m) := fun ξ ρ H σ env st Q e0 hr w => by
  refine hp.rt (ht ξ ρ H σ env st _ e0 hr ?_)
  cases em : m env st with
  | ok x s =>
    obtain ⟨b, rfl⟩ := hb env st x s em
    unfold mTest at w
    rw [em] at w
    intro ρ' H' v x1 h1 r1
    cases r1
    exact ⟨b, rfl, w ρ' H' x1 h1⟩
  | ex => unfold mTest at w; rw [em] at w; exact w
  | bad => unfold mTest at w; rw [em] at w; exact w
end
/-! ### and, or -/
def RW (X : Cx) (e : Expr) : TT := fun σ H Q => ∀ (whole : Sem Value) (pins : List (Addr × Obj)) (s : Shared), Inv X pins σ H s → wpAny (model X.prog X.w) X.A (isTrue e X.env whole) (TP X pins σ Q) X.xe s
theorem pw_rw {X : Cx} {e : Expr} : PW X e (RW X e) := ⟨fun whole pins s _ _ _ I h => h whole pins s I⟩
theorem _root_.L2.PW.rw {X : Cx} {e : Expr} {t : TT} (h : PW X e t) {σ : L2.St} {H : Hp} {Q : Bool → Hp → Prop} (q : t σ H Q) : RW X e σ H Q := fun whole pins s I => h.run whole pins s σ H Q I q
def SW (X : Cx) (e : Expr) (m : MT) : Prop := ∀ (ξ ρ : List Addr) (H : Hp) (σ : L2.St) (env : Ev) (st : Sto) (Q : Bool → Hp → Prop), Er (X.kx ξ) ρ H σ env → Hr (X.kx ξ) ρ H st →
  (m env st).wp (fun b st' => ∀ ρ' H', Xt ρ H ρ' H' → Hr (X.kx ξ) ρ' H' st' → Q b H') → RW X e σ H Q
section
variable {X : Cx} {pos : Pos} {a b : Expr} {rest : List Expr} {ma mb : MT} {va vb : ME}
theorem SW.st (h : SW X a ma) : ST X a ma := fun ξ ρ H σ env st Q e0 hr w pins s I => h ξ ρ H σ env st Q e0 hr w _ pins s I
theorem sw_and1 (ha : ST X a ma) : SW X (.BoolOp .And [a] pos) ma := fun ξ ρ H σ env st Q e0 hr w => (pw_and1 pt_rt).rw (ha ξ ρ H σ env st Q e0 hr w)
theorem sw_or1 (ha : ST X a ma) : SW X (.BoolOp .Or [a] pos) ma := fun ξ ρ H σ env st Q e0 hr w => (pw_or1 pt_rt).rw (ha ξ ρ H σ env st Q e0 hr w)
theorem sw_and (ha : ST X a ma) (hb : SW X (.BoolOp .And (b :: rest) pos) mb) : SW X (.BoolOp .And (a :: b :: rest) pos) (mAndT ma mb) := fun ξ ρ H σ env st Q e0 hr w => by
  refine (pw_and pt_rt pw_rw).rw (ha ξ ρ H σ env st _ e0 hr (R.wp_mono (R.wp_bd.mp w) fun k s w1 ρ1 H1 x1 h1 => ?_))
  cases k with
  | true =>
    refine iteT (hb ξ ρ1 H1 σ env s Q (e0.xt x1) h1 (R.wp_mono w1 fun b s2 w2 ρ2 H2 x2 h2 => w2 ρ2 H2 (x1.trans x2) h2))
  | false => exact iteF (w1 ρ1 H1 x1 h1)
theorem sw_or (ha : ST X a ma) (hb : SW X (.BoolOp .Or (b :: rest) pos) mb) : SW X (.BoolOp .Or (a :: b :: rest) pos) (mOrT ma mb) := fun ξ ρ H σ env st Q e0 hr w => by
  refine (pw_or pt_rt pw_rw).rw (ha ξ ρ H σ env st _ e0 hr (R.wp_mono (R.wp_bd.mp w) fun k s w1 ρ1 H1 x1 h1 => ?_))
  cases k with
  | true => exact iteT (w1 ρ1 H1 x1 h1)
  | false =>
    refine iteF (hb ξ ρ1 H1 σ env s Q (e0.xt x1) h1 (R.wp_mono w1 fun b s2 w2 ρ2 H2 x2 h2 => w2 ρ2 H2 (x1.trans x2) h2))
theorem se_one {op : BoolOp} (ha : SE X a va) : SE X (.BoolOp op [a] pos) va := fun ξ ρ H σ env st Q e0 hr w => (pe_one pe_re).re (ha ξ ρ H σ env st Q e0 hr w)
theorem se_and (ha : SE X a va) (hb : SE X (.BoolOp .And (b :: rest) pos) vb) : SE X (.BoolOp .And (a :: b :: rest) pos) (mAndV va vb) := fun ξ ρ H σ env st Q e0 hr w => by
  refine (pe_and pe_re pe_re).re (ha ξ ρ H σ env st _ e0 hr (R.wp_mono (R.wp_bd.mp w) fun x s w1 ρ1 H1 v x1 h1 r1 => ?_))
  cases r1 with
  | bl k =>
    cases k with
    | true => exact ⟨true, rfl, iteT (hb ξ ρ1 H1 σ env s Q (e0.xt x1) h1 (R.wp_mono w1 fun b s2 w2 ρ2 H2 v x2 h2 => w2 ρ2 H2 v (x1.trans x2) h2))⟩
    | false => exact ⟨false, rfl, iteF (w1 ρ1 H1 _ x1 h1 (.bl false))⟩
  | _ => exact w1.elim
theorem se_or (ha : SE X a va) (hb : SE X (.BoolOp .Or (b :: rest) pos) vb) : SE X (.BoolOp .Or (a :: b :: rest) pos) (mOrV va vb) := fun ξ ρ H σ env st Q e0 hr w => by
  refine (pe_or pe_re pe_re).re (ha ξ ρ H σ env st _ e0 hr (R.wp_mono (R.wp_bd.mp w) fun x s w1 ρ1 H1 v x1 h1 r1 => ?_))
  cases r1 with
  | bl k =>
    cases k with
    | false => exact ⟨false, rfl, iteF (hb ξ ρ1 H1 σ env s Q (e0.xt x1) h1 (R.wp_mono w1 fun b s2 w2 ρ2 H2 v x2 h2 => w2 ρ2 H2 v (x1.trans x2) h2))⟩
    | true => exact ⟨true, rfl, iteT (w1 ρ1 H1 _ x1 h1 (.bl true))⟩
  | _ => exact w1.elim
theorem se_not (ha : SE X a va) : SE X (.UnaryOp .Not a pos) (mNotV va) := fun ξ ρ H σ env st Q e0 hr w => by
  refine (pe_not pe_re).re (ha ξ ρ H σ env st _ e0 hr (R.wp_mono (R.wp_bd.mp w) fun x s w1 ρ1 H1 v x1 h1 r1 => ?_))
  cases r1 with
  | bl k => exact ⟨k, rfl, w1 ρ1 H1 _ x1 h1 (.bl _)⟩
  | _ => exact w1.elim
theorem se_if {t : Expr} {mt : MT} (ht : ST X t mt) (ha : SE X a va) (hb : SE X b vb) : SE X (.IfExp t a b pos) (mIf mt va vb) := fun ξ ρ H σ env st Q e0 hr w => by
  refine (pe_ifExp pt_rt pe_re pe_re).re (ht ξ ρ H σ env st _ e0 hr (R.wp_mono (R.wp_bd.mp w) fun k s w1 ρ1 H1 x1 h1 => ?_))
  cases k with
  | true => exact iteT (ha ξ ρ1 H1 σ env s Q (e0.xt x1) h1 (R.wp_mono w1 fun b s2 w2 ρ2 H2 v x2 h2 => w2 ρ2 H2 v (x1.trans x2) h2))
  | false => exact iteF (hb ξ ρ1 H1 σ env s Q (e0.xt x1) h1 (R.wp_mono w1 fun b s2 w2 ρ2 H2 v x2 h2 => w2 ρ2 H2 v (x1.trans x2) h2))
end
end Rf
set_option maxHeartbeats 4000000
namespace Rf
open PySem PySem.Spec L2
open PyProof.Rows hiding St
/-! ## operations by values -/
section
variable {X : Cx}
theorem OpR.ors {f : Value → Value → Sem Value} {ι : Type} {r : ι → R2} (h : ∀ i, OpR X f (r i)) : OpR X f (fun x y H Q => ∃ i, r i x y H Q) := fun pins s σ H x y v u Q I rx ry ⟨i, q⟩ => h i pins s σ H x y v u Q I rx ry q
/-- the list that lies there, if it is one of its own -/
def lstD (x : D) (s : Sto) : Option (List D) := match x with
  | .lst ds => some ds
  | .ref n => match s[n]? with
    | some (.lst ds) => some ds
    | _ => none
  | _ => none
theorem lstD_ok {K : Kx} {ρ : List Addr} {H : Hp} {v : V} {x : D} {s : Sto} {ds : List D} (hr : Hr K ρ H s) (r : Rp K ρ H v x) (h : lstD x s = some ds) : ∃ a xs, v = .ref a ∧ H a = some (.lst xs) ∧ xs.length ≤ sizeLine ∧ Rps K ρ H xs ds := by
  cases r with
  | lst n f z rs => cases h; exact ⟨_, _, rfl, f, z, rs⟩
  | ref hn =>
    rename_i a n
    have h' : (match s[n]? with | some (.lst ds) => some ds | _ => none) = some ds := h
    cases e : s[n]? with
    | none => rw [e] at h'; cases h'
    | some o =>
      rw [e] at h'
      cases o with
      | lst es =>
        cases h'
        obtain ⟨xs, h1, h2, h3⟩ := hr.ob n a _ hn e
        exact ⟨a, xs, rfl, h1, h2, h3⟩
      | dct => cases h'
      | ins => cases h'
  | _ => cases h
/-- a list that may be read -/
def seqD (x : D) (s : Sto) : Option (List D) := match x with
  | .ro ds => some ds
  | _ => lstD x s
theorem seqD_ok {K : Kx} {ρ : List Addr} {H : Hp} {v : V} {x : D} {s : Sto} {ds : List D} (hr : Hr K ρ H s) (r : Rp K ρ H v x) (h : seqD x s = some ds) : ∃ a xs, v = .ref a ∧ SqL K.K H a xs ∧ xs.length ≤ sizeLine ∧ Rps K ρ H xs ds := by
  by_cases z : ∃ es, x = .ro es
  · obtain ⟨es, rfl⟩ := z
    cases h
    cases r with
    | ro f z rs => exact ⟨_, _, rfl, f.sq, z, rs⟩
  · have h' : lstD x s = some ds := by
      unfold seqD at h
      split at h
      · rename_i es
        exact absurd ⟨es, rfl⟩ z
      · exact h
    obtain ⟨a, xs, h1, h2, h3, h4⟩ := lstD_ok hr r h'
    exact ⟨a, xs, h1, SqL.of h2, h3, h4⟩
/-- a new list, to be written or not -/
def newL (m : Bool) (ds : List D) (s : Sto) : R D := if m then .ok (.ref s.length) (s ++ [.lst ds]) else .ok (.lst ds) s
theorem newL_ok {K : Kx} {ρ : List Addr} {H : Hp} {s : Sto} {m : Bool} {ds : List D} {xs : List V} {Q : VK} {p : Addr} (hr : Hr K ρ H s) (hp : H p = none) (hz : xs.length ≤ sizeLine) (r : Rps K ρ H xs ds)
    (w : (newL m ds s).wp fun d s' => ∀ ρ' H' v', Xt ρ H ρ' H' → Hr K ρ' H' s' → Rp K ρ' H' v' d → Q v' H') : Q (.ref p) (upd H p (.lst xs)) := by
  unfold newL at w
  cases m with
  | false =>
    exact w ρ _ _ (.same (same_upd hp)) (hr.same (same_upd hp)) (.lst (hr.new hp) upd_same hz (Rps.xt (.same (same_upd hp)) _ _ r))
  | true =>
    obtain ⟨h1, h2⟩ := hr.push (o := .lst ds) (u := .lst xs) hp (fun ρ' H' x e => ⟨xs, e, hz, Rps.xt x _ _ r⟩)
    refine w _ _ _ h2 h1 (.ref ?_)
    rw [← hr.len]
    simp
theorem newT_ok {K : Kx} {ρ : List Addr} {H : Hp} {s : Sto} {ds : List D} {xs : List V} {Q : VK} {p : Addr} (hr : Hr K ρ H s) (hp : H p = none) (hz : xs.length ≤ sizeLine) (r : Rps K ρ H xs ds)
    (w : ∀ ρ' H' v', Xt ρ H ρ' H' → Hr K ρ' H' s → Rp K ρ' H' v' (.tup ds) → Q v' H') : Q (.ref p) (upd H p (.tup xs)) :=
  w ρ _ _ (.same (same_upd hp)) (hr.same (same_upd hp)) (.tup (.inl ⟨hr.new hp, .inl upd_same⟩) hz (Rps.xt (.same (same_upd hp)) _ _ r))
/-! ### + -/
def opAdd (m : Bool) : Op2 := fun x y s => match x, y with
  | .int i, .int j => .ok (.int (i + j)) s
  | .str a, .str b => if a.length + b.length ≤ sizeLine then .ok (.str (a ++ b)) s else .bad
  | .tup a, .tup b => if a.length + b.length ≤ sizeLine then .ok (.tup (a ++ b)) s else .bad
  | _, _ => match lstD x s, lstD y s with
    | some a, some b => if a.length + b.length ≤ sizeLine then newL m (a ++ b) s else .bad
    | _, _ => .bad
def rAddA (K : PySem.W.Frag) : R2 := fun x y H Q => (rI0 (fun i j => .int (i + j)) x y H Q ∨ (∃ i j, x = .str i ∧ y = .str j ∧ i.length + j.length ≤ sizeLine ∧ Q (.str (i ++ j)) H)) ∨ (rCatA K x y H Q ∨ rCat x y H Q)
theorem op_addA : OpR X (binaryOp .Add) (rAddA X.K) := OpR.or (OpR.or op_add op_add_str) (OpR.or op_catA op_cat)
theorem do_add (m : Bool) : Do2 X (opAdd m) (rAddA X.K) := by
  intro x y s ξ ρ H v u Q hr r1 r2 w
  have lists : (match lstD x s, lstD y s with
    | some a, some b => if a.length + b.length ≤ sizeLine then newL m (a ++ b) s else .bad
    | _, _ => (.bad : R D)).wp (fun d s' => ∀ ρ' H' v', Xt ρ H ρ' H' → Hr (X.kx ξ) ρ' H' s' → Rp (X.kx ξ) ρ' H' v' d → Q v' H') → rAddA X.K v u H Q := by
    intro w
    split at w
    · rename_i a b e1 e2
      obtain ⟨p, xs, rfl, h1, z1, q1⟩ := lstD_ok hr r1 e1
      obtain ⟨p', ys, rfl, h2, z2, q2⟩ := lstD_ok hr r2 e2
      split at w
      · rename_i z
        rw [← q1.length, ← q2.length] at z
        exact .inr (.inr ⟨p, p', xs, ys, rfl, rfl, h1, h2, z, fun q hq => newL_ok hr hq (by simpa using z) (q1.app q2) w⟩)
      · exact w.elim
    · exact w.elim
  cases r1 with
  | int i =>
    cases r2 with
    | int j => exact .inl (.inl ⟨i, j, rfl, rfl, w ρ H _ (.refl _ _) hr (.int _)⟩)
    | _ => exact lists w
  | str a =>
    cases r2 with
    | str b =>
      have w' : (if a.length + b.length ≤ sizeLine then R.ok (D.str (a ++ b)) s else .bad).wp _ := w
      by_cases z : a.length + b.length ≤ sizeLine
      · rw [if_pos z] at w'
        exact .inl (.inr ⟨a, b, rfl, rfl, z, w' ρ H _ (.refl _ _) hr (.str _)⟩)
      · rw [if_neg z] at w'
        exact w'.elim
    | _ => exact lists w
  | tup f z1 q1 =>
    cases r2 with
    | tup g z2 q2 =>
      rename_i p xs a p' ys b
      have w' : (if a.length + b.length ≤ sizeLine then R.ok (D.tup (a ++ b)) s else .bad).wp _ := w
      by_cases z : a.length + b.length ≤ sizeLine
      · rw [if_pos z] at w'
        have z' := z
        rw [← q1.length, ← q2.length] at z'
        refine .inr (.inl ⟨p, p', xs, ys, rfl, rfl, f.sq, g.sq, z', fun e => ?_, fun _ e => ?_, fun _ _ q hq => newT_ok hr hq (by simpa using z') (q1.app q2) w'⟩)
        · subst e
          cases q1
          exact w' ρ H _ (.refl _ _) hr (.tup g z2 q2)
        · subst e
          cases q2
          rw [List.append_nil] at w'
          exact w' ρ H _ (.refl _ _) hr (.tup f z1 q1)
      · rw [if_neg z] at w'
        exact w'.elim
    | _ => exact lists w
  | _ => exact lists w
/-! ### ints -/
theorem wp_ok {α : Type} {a : α} {s : Sto} {Q : α → Sto → Prop} (h : (R.ok a s).wp Q) : Q a s := h
/-- two ints, under a test -/
def opI2 (t : Int → Int → Bool) (g : Int → Int → D) : Op2 := fun x y s => match x, y with
  | .int i, .int j => if t i j then .ok (g i j) s else .bad
  | _, _ => .bad
theorem do_I2 {t : Int → Int → Bool} {g : Int → Int → D} {C : Int → Int → Prop} {gv : Int → Int → V} (hc : ∀ i j, t i j = true → C i j) (hg : ∀ ξ ρ H i j, Rp (X.kx ξ) ρ H (gv i j) (g i j)) : Do2 X (opI2 t g) (rI C gv) := by
  intro x y s ξ ρ H v u Q hr r1 r2 w
  cases r1 with
  | int i =>
    cases r2 with
    | int j =>
      have w' : (if t i j = true then R.ok (g i j) s else .bad).wp _ := w
      by_cases z : t i j = true
      · rw [if_pos z] at w'
        exact ⟨i, j, rfl, rfl, hc i j z, w' ρ H _ (.refl _ _) hr (hg ξ ρ H i j)⟩
      · rw [if_neg z] at w'
        exact w'.elim
    | _ => exact w.elim
  | _ => exact w.elim
theorem op_of0 {f : Value → Value → Sem Value} {g : Int → Int → V} (h : OpR X f (rI0 g)) : OpR X f (rI (fun _ _ => True) g) := fun pins s σ H x y v u Q I rx ry ⟨i, j, e1, e2, _, q⟩ => h pins s σ H x y v u Q I rx ry ⟨i, j, e1, e2, q⟩
def yes2 (_ _ : Int) : Bool := true
abbrev opSub : Op2 := opI2 yes2 fun i j => .int (i - j)
def mulB (i j : Int) : Bool := decide (i.natAbs.log2 + j.natAbs.log2 < 1000000)
def divB (_ j : Int) : Bool := decide (j ≠ 0) && decide (j.natAbs.log2 < 9000)
def modB (_ j : Int) : Bool := decide (j ≠ 0)
def powB (i j : Int) : Bool := decide (0 ≤ j) && decide (j ≤ 1000000) && decide (i.natAbs < 2 ^ 64)
abbrev opDiv : Op2 := opI2 divB fun i j => .int (i.fdiv j)
abbrev opMod : Op2 := opI2 modB fun i j => .int (i.fmod j)
abbrev opPow : Op2 := opI2 powB fun i j => .int (i ^ j.toNat)
abbrev opShl : Op2 := opI2 powB fun i j => .int (i * 2 ^ j.toNat)
theorem op_divA : OpR X (binaryOp .FloorDiv) (rI (fun i j => divB i j = true) fun i j => .int (i.fdiv j)) := opI fun i j _ _ _ _ _ hc q => by
  unfold divB at hc
  rw [Bool.and_eq_true] at hc
  exact PyProof.Rows.floordiv_int (of_decide_eq_true hc.1) q (.inl (PyProof.noPylong_of_log2 (of_decide_eq_true hc.2)))
theorem powB_ok {i j : Int} (h : powB i j = true) : CPow i j := by
  unfold powB at h
  simp only [Bool.and_eq_true, decide_eq_true_eq] at h
  exact ⟨h.1.1, h.1.2, h.2⟩
/-! ### * : ints, a tuple by an int, a list by an int -/
theorem tuple_mul_same (l : Addr) (items : Array Value) (n : Nat) (dd : Option Addr) (sl : Array (Option Value)) (x : Int) (u : Tok) (c0 : (decide (x < -(2 ^ 63)) || decide (x ≥ 2 ^ 63)) = false) (c1 : (items.isEmpty || x == 1) = true) :
    Meets (Builtin.«tuple.__mul__» ⟨[.ref l, .int x u], []⟩) (fun _ R s => s.heap.get? l = some { cls := .type "tuple", dict := dd, data := .seq items n, slots := sl } ∧ R (.ok (.ret (Value.ref l))) s) :=
  .of_wp fun prog w A R s h => by
    obtain ⟨hp, g, d, tk, os⟩ := s
    obtain ⟨hl, h⟩ := h
    have f1 := PySem.AutoSeq1.idx_int
    wp_walk using PySem.AutoSeq1.wpAny_loadPart' hl
    refine wpAny_ite_false (decide_eq_false (by rw [c0]; exact Bool.false_ne_true)) ?_
    wp_walk using PySem.AutoSeq1.wpAny_loadPart' hl
    exact ⟨_, rfl, h⟩
theorem tuple_mul_none (l : Addr) (items : Array Value) (n : Nat) (dd : Option Addr) (sl : Array (Option Value)) (x : Int) (u : Tok) (c0 : (decide (x < -(2 ^ 63)) || decide (x ≥ 2 ^ 63)) = false) (c1 : (items.isEmpty || x == 1) = false) (c2 : (decide (x ≤ 0) || items.isEmpty) = true) :
    Meets (Builtin.«tuple.__mul__» ⟨[.ref l, .int x u], []⟩) (fun _ R s => s.heap.get? l = some { cls := .type "tuple", dict := dd, data := .seq items n, slots := sl } ∧
      R (.ok (.ret (Value.ref s.heap.objs.size))) { s with heap := s.heap.push { cls := Value.type "tuple", data := Data.seq #[] }, toks := s.toks }) :=
  .of_wp fun prog w A R s h => by
    obtain ⟨hp, g, d, tk, os⟩ := s
    obtain ⟨hl, h⟩ := h
    have f1 := PySem.AutoSeq1.idx_int
    wp_walk using PySem.AutoSeq1.wpAny_loadPart' hl
    refine wpAny_ite_false (decide_eq_false (by rw [c0]; exact Bool.false_ne_true)) ?_
    wp_walk using PySem.AutoSeq1.wpAny_loadPart' hl
    repeat (first
      | (refine wpAny_ite_true (decide_eq_true c2) ?_; wp_walk using PySem.AutoSeq1.wpAny_loadPart' hl)
      | (refine wpAny_ite_false (decide_eq_false (by decide)) ?_; wp_walk using PySem.AutoSeq1.wpAny_loadPart' hl))
    exact ⟨_, rfl, h⟩
def rRepA (K : PySem.W.Frag) : R2 := fun x y H Q => ∃ l k xs, x = .ref l ∧ y = .int k ∧ SqT K H l xs ∧ k ≤ 1000 ∧ -1000 ≤ k ∧ xs.length ≤ 1000 ∧
  ((xs = [] ∨ k = 1) → Q (.ref l) H) ∧ (xs ≠ [] → k ≠ 1 → ∀ p, H p = none → Q (.ref p) (upd H p (.tup (List.replicate k.toNat xs).flatten)))
theorem op_repA : OpR X (binaryOp .Mult) (rRepA X.K) := by
  intro pins s σ H x y v u Q I rx ry h
  obtain ⟨l, k, xs, rfl, rfl, hT, hk, hk0, hz, q0, q1⟩ := h
  by_cases big : xs ≠ [] ∧ 2 ≤ k
  · exact op_repT pins s σ H _ _ v u Q I rx ry ⟨l, k, xs, rfl, rfl, hT, big.1, big.2, hk, hz, q1 big.1 (by omega)⟩
  cases rx
  obtain ⟨t, rfl⟩ := ry
  obtain ⟨its, r, ⟨⟨cls, dd, data, sl⟩, ho, hc, n, hd⟩, hs⟩ := I.tuple hT
  simp only at hc hd
  subst hc hd
  have hle : its.length = xs.length := r.length.symm
  have c0 : (decide (k < -(2 ^ 63)) || decide (k ≥ 2 ^ 63)) = false := by
    rw [decide_eq_false (by omega), decide_eq_false (by omega)] <;> rfl
  by_cases one : xs = [] ∨ k = 1
  · have c1 : (its.toArray.isEmpty || k == 1) = true := by
      rcases one with e | e
      · subst e
        have : its = [] := List.eq_nil_of_length_eq_zero (by rw [hle]; rfl)
        subst this
        rfl
      · subst e
        simp
    refine wpAny_binaryOp_repeat_ref (T := "tuple") (U := "int") (by decide) ⟨_, ho, rfl⟩ (fun s' => typeIs_int s' k t) noFill_tuple_mul F.fills_int_mul F.slot_int_rmul repeat_tuple F.slot_int_index.lookup
      (call_meets F.slot_int_rmul (typeIs_int s k t) F.entry_int_rmul (F.args_int_rmul_2 _ _) (int_rmul_tuple k t l its.toArray n dd sl)
        ⟨ho, rfl, ⟨_, ho, rfl⟩, call_meets F.slot_tuple_mul ⟨_, ho, rfl⟩ F.entry_tuple_mul (F.args_tuple_mul_2 _ _) (tuple_mul_same l its.toArray n dd sl k t c0 c1) ⟨ho, ?_⟩⟩)
    exact ⟨.ref l, H, I, rfl, q0 one⟩
  · have hne : xs ≠ [] := fun e => one (.inl e)
    have k1 : k ≠ 1 := fun e => one (.inr e)
    have k0 : k ≤ 0 := by
      have z2 : ¬ 2 ≤ k := fun z => big ⟨hne, z⟩
      omega
    have hn : its ≠ [] := fun e => hne (by
      subst e
      exact List.eq_nil_of_length_eq_zero hle.symm)
    have ie : its.toArray.isEmpty = false := by
      cases its with
      | nil => exact absurd rfl hn
      | cons a b => rfl
    have c1 : (its.toArray.isEmpty || k == 1) = false := by
      rw [ie, Bool.false_or]
      exact beq_eq_false_iff_ne.mpr k1
    have c2 : (decide (k ≤ 0) || its.toArray.isEmpty) = true := by
      rw [decide_eq_true k0]
      rfl
    have e0 : (List.replicate k.toNat xs).flatten = [] := by
      have : k.toNat = 0 := by omega
      rw [this]
      rfl
    refine wpAny_binaryOp_repeat_ref (T := "tuple") (U := "int") (by decide) ⟨_, ho, rfl⟩ (fun s' => typeIs_int s' k t) noFill_tuple_mul F.fills_int_mul F.slot_int_rmul repeat_tuple F.slot_int_index.lookup
      (call_meets F.slot_int_rmul (typeIs_int s k t) F.entry_int_rmul (F.args_int_rmul_2 _ _) (int_rmul_tuple k t l its.toArray n dd sl)
        ⟨ho, rfl, ⟨_, ho, rfl⟩, call_meets F.slot_tuple_mul ⟨_, ho, rfl⟩ F.entry_tuple_mul (F.args_tuple_mul_2 _ _) (tuple_mul_none l its.toArray n dd sl k t c0 c1 c2) ⟨ho, ?_⟩⟩)
    have q2 := q1 hne k1
    rw [e0] at q2
    exact ⟨.ref s.heap.objs.size, _, I.laid (t' := s.toks) (o := .tup []) (fun b ob q => Heap.get?_push_of_some _ q) (Nat.le_refl _) ⟨Nat.zero_le _, [], .nil, IsTup.new _ _⟩, rfl, q2 _ (I.hok.fresh (Nat.le_refl _))⟩
def opMul (m : Bool) : Op2 := fun x y s => match x, y with
  | .int i, .int j => if mulB i j then .ok (.int (i * j)) s else .bad
  | .tup a, .int k => if a.length ≤ 1000 ∧ k ≤ 1000 ∧ -1000 ≤ k then .ok (.tup (List.replicate k.toNat a).flatten) s else .bad
  | _, .int k => match lstD x s with
    | some a => if a.length ≤ 1000 ∧ k ≤ 1000 ∧ -1000 ≤ k then newL m (List.replicate k.toNat a).flatten s else .bad
    | none => .bad
  | _, _ => .bad
def rMulA (K : PySem.W.Frag) : R2 := fun x y H Q => rI CMulW (fun i j => .int (i * j)) x y H Q ∨ (rRepA K x y H Q ∨ rRep x y H Q)
theorem op_mulA : OpR X (binaryOp .Mult) (rMulA X.K) := OpR.or op_mulW (OpR.or op_repA op_rep)
theorem repl_len (xs : List V) (k : Nat) (h : xs.length ≤ 1000) (hk : k ≤ 1000) : (List.replicate k xs).flatten.length ≤ sizeLine := by
  rw [PyProof.Rows.lm_len_rep_flat, sizeLine_eq]
  have : k * xs.length ≤ 1000 * 1000 := Nat.mul_le_mul hk h
  omega
theorem do_mul (m : Bool) : Do2 X (opMul m) (rMulA X.K) := by
  intro x y s ξ ρ H v u Q hr r1 r2 w
  cases r2 with
  | int k =>
    have lists : (match lstD x s with
      | some a => if a.length ≤ 1000 ∧ k ≤ 1000 ∧ -1000 ≤ k then newL m (List.replicate k.toNat a).flatten s else .bad
      | none => (.bad : R D)).wp (fun d s' => ∀ ρ' H' v', Xt ρ H ρ' H' → Hr (X.kx ξ) ρ' H' s' → Rp (X.kx ξ) ρ' H' v' d → Q v' H') → rMulA X.K v (.int k) H Q := by
      intro w
      cases e1 : lstD x s with
      | none => rw [e1] at w; exact w.elim
      | some a =>
        rw [e1] at w
        obtain ⟨p, xs, rfl, h1, z1, q1⟩ := lstD_ok hr r1 e1
        have w' : (if a.length ≤ 1000 ∧ k ≤ 1000 ∧ -1000 ≤ k then newL m (List.replicate k.toNat a).flatten s else .bad).wp _ := w
        by_cases z : a.length ≤ 1000 ∧ k ≤ 1000 ∧ -1000 ≤ k
        · rw [if_pos z] at w'
          have z1 : xs.length ≤ 1000 := by rw [q1.length]; exact z.1
          have hl := repl_len xs k.toNat z1 (by omega)
          refine .inr (.inr ⟨p, k, xs, rfl, rfl, h1, by omega, by omega, ?_, fun q hq => newL_ok hr hq hl (q1.repl _) w'⟩)
          rw [PyProof.Rows.lm_len_rep_flat, Nat.mul_comm] at hl
          exact hl
        · rw [if_neg z] at w'
          exact w'.elim
    cases r1 with
    | int i =>
      have w' : (if mulB i k = true then R.ok (D.int (i * k)) s else .bad).wp _ := w
      by_cases z : mulB i k = true
      · rw [if_pos z] at w'
        exact .inl ⟨i, k, rfl, rfl, of_decide_eq_true (p := i.natAbs.log2 + k.natAbs.log2 < 1000000) z, w' ρ H _ (.refl _ _) hr (.int _)⟩
      · rw [if_neg z] at w'
        exact w'.elim
    | tup f z1 q1 =>
      rename_i p xs a
      have w' : (if a.length ≤ 1000 ∧ k ≤ 1000 ∧ -1000 ≤ k then R.ok (D.tup (List.replicate k.toNat a).flatten) s else .bad).wp _ := w
      by_cases z : a.length ≤ 1000 ∧ k ≤ 1000 ∧ -1000 ≤ k
      · rw [if_pos z] at w'
        have z2 : xs.length ≤ 1000 := by rw [q1.length]; exact z.1
        refine .inr (.inl ⟨p, k, xs, rfl, rfl, f.sq, z.2.1, z.2.2, z2, fun e => ?_, fun _ _ q hq => newT_ok hr hq (repl_len xs k.toNat z2 (by omega)) (q1.repl _) w'⟩)
        refine w' ρ H _ (.refl _ _) hr ?_
        rcases e with e | e
        · subst e
          cases q1
          have e0 : (List.replicate k.toNat ([] : List D)).flatten = [] := by simp
          rw [e0]
          exact .tup f z1 .nil
        · subst e
          have e0 : (List.replicate (1 : Int).toNat a).flatten = a := by simp
          rw [e0]
          exact .tup f z1 q1
      · rw [if_neg z] at w'
        exact w'.elim
    | _ => exact lists w
  | _ => cases r1 <;> exact w.elim
def opNeg : Op1 := fun x s => match x with
  | .int i => .ok (.int (-i)) s
  | _ => .bad
theorem do_neg : Do1 X opNeg (rU fun i => .int (-i)) := by
  intro x s ξ ρ H v Q hr r1 w
  cases r1 with
  | int i => exact ⟨i, rfl, w ρ H _ (.refl _ _) hr (.int _)⟩
  | _ => exact w.elim
end
end Rf
set_option maxHeartbeats 4000000
namespace HT
open PySem PySem.Spec PySem.Calls PyProof.Rows L2
section
variable {prog : Program} {w : World} {A : Around} {E : Value → Shared → Prop} {s : Shared}
theorem adjust_rev (n : Nat) : Builtin.Slice.sliceAdjust none none (-1) (n : Int) = ((n : Int) - 1, -1) := by
  unfold Builtin.Slice.sliceAdjust
  simp
theorem places_rev (n : Nat) : Builtin.Slice.slicePlaces ((n : Int) - 1) (-1) (-1) = n := by
  unfold Builtin.Slice.slicePlaces
  simp
  try omega
theorem sliceApplied_rev {sl : Addr} {t : Tok} {n : Nat} {Q : Int × Int × Nat → Shared → Prop} (hs : s.heap.IsSliceOf sl .none .none (.int (-1) t)) (h : Q ((n : Int) - 1, -1, n) s) :
    wpAny (model prog w) A (Builtin.Slice.sliceApplied (.ref sl) (pure (n : Int))) Q E s := by
  obtain ⟨os, k1, k2, k3⟩ := id hs
  unfold Builtin.Slice.sliceApplied Builtin.Slice.sliceFields
  refine wpAny_bind (wpAny_bind (wpAny_field k1 k3 (x := .none) rfl (wpAny_bind (wpAny_field k1 k3 (x := .none) rfl (wpAny_bind (wpAny_field k1 k3 (x := .int (-1) t) rfl (wpAny_pure ?_)))))))
  refine wpAny_bind (slicePart_int ?_)
  show wpAny _ _ (if ((-1 : Int) == 0) = true then _ else _) _ _ s
  rw [if_neg (by decide)]
  refine wpAny_bind (slicePart_none (wpAny_bind (slicePart_none (wpAny_bind (wpAny_pure ?_)))))
  show wpAny _ _ (match Builtin.Slice.sliceAdjust none none (-1) (n : Int) with | (lo, hi) => pure (lo, (-1 : Int), Builtin.Slice.slicePlaces lo hi (-1))) _ _ s
  rw [adjust_rev n]
  show wpAny _ _ (pure ((n : Int) - 1, (-1 : Int), Builtin.Slice.slicePlaces ((n : Int) - 1) (-1) (-1))) _ _ s
  rw [places_rev]
  exact wpAny_pure h
theorem pick_rev (xs : Array Value) : ((List.range xs.size).filterMap fun (m : Nat) => xs[(((xs.size : Int) - 1) + (m : Int) * (-1)).toNat]?).toArray = xs.toList.reverse.toArray := by
  congr 1
  have e : ∀ k : Nat, k ≤ xs.size → ((List.range k).filterMap fun (m : Nat) => xs[(((xs.size : Int) - 1) + (m : Int) * (-1)).toNat]?) = (xs.toList.reverse.take k) := by
    intro k
    induction k with
    | zero => intro _; rfl
    | succ k ih =>
      intro hk
      have h1 : (((xs.size : Int) - 1) + (k : Int) * (-1)).toNat = xs.size - 1 - k := by omega
      have h2 : xs[xs.size - 1 - k]? = some xs[xs.size - 1 - k] := by rw [Array.getElem?_eq_getElem]
      rw [List.range_succ, List.filterMap_append, ih (by omega), List.filterMap_cons, h1, h2, List.filterMap_nil]
      rw [List.take_add_one]
      congr 1
      rw [List.getElem?_reverse (by simp; omega)]
      simp [h2]
  rw [e xs.size (Nat.le_refl _)]
  exact List.take_of_length_le (by simp)
theorem getItem_tuple_rev {t sl : Addr} {items : Array Value} {tk : Tok} {Q : Value → Shared → Prop} (it : IsTup s.heap t items) (hs : s.heap.IsSliceOf sl .none .none (.int (-1) tk))
    (h : Q (.ref s.heap.objs.size) { s with heap := s.heap.push { cls := .type "tuple", data := .seq items.toList.reverse.toArray } })
    (few : items.size ≤ sizeLine) : wpAny (model prog w) A (getItem (.ref t) (.ref sl)) Q E s := by
  have fits : sizeOk (.seq items.toList.reverse.toArray) := by
    show items.toList.reverse.toArray.size ≤ sizeLine
    simpa using few
  obtain ⟨os, k1, k2, k3⟩ := id hs
  have tsl : s.TypeIs (.ref sl) "slice" := ⟨os, k1, k2⟩
  unfold getItem
  (try (with_reducible refine wpAny_holding ?_))
  (try refine wpAny_bind (wpAny_pure ?_))
  refine wpAny_bind (wpAny_sequenceKey it.typeIs (by decide) ?_)
  refine wpAny_bind (wpAny_callSpecial?_slot (name := Str.ofString "__getitem__") it.typeIs PyProof.Rows.slot_tuple_getitem
    (wpAny_call_entry PyProof.Rows.slot_tuple_getitem it.typeIs entry_tuple_getitem ?_ (args_tuple_getitem _ _)))
  show wpAny _ _ (Builtin.Tuple.tupleItemsOf (.ref t) >>= _) _ _ s
  refine wpAny_bind (tupleItemsOf_ it ?_)
  refine wpAny_bind (wpAny_typeOf tsl ?_)
  rw [if_pos (by decide)]
  refine wpAny_bind (sliceApplied_rev hs ?_)
  have nw : ¬ ((((items.size : Int) - 1) == 0 && (-1 : Int) == 1 && items.size == items.size) = true) := by
    intro q
    rw [Bool.and_eq_true, Bool.and_eq_true] at q
    exact absurd q.1.2 (by decide)
  show wpAny _ _ (if (((items.size : Int) - 1) == 0 && (-1 : Int) == 1 && items.size == items.size) = true then _ else _) _ _ s
  rw [if_neg nw, pick_rev]
  first
    | exact wpAny_bind (m := Builtin.Tuple.tupleExact _) (wpAny_newObj_type (wpAny_pure ⟨_, rfl, wpAny_pure h⟩) fits)
    | exact wpAny_bind (wpAny_bind (m := Builtin.Tuple.tupleExact _) (wpAny_newObj_type (wpAny_pure ⟨_, rfl, wpAny_pure h⟩) fits))
    | exact wpAny_bind (wpAny_bind (m := Builtin.Tuple.tupleExact _) (wpAny_newObj_type (wpAny_pure (wpAny_pure ⟨_, rfl, wpAny_pure h⟩)) fits))
end
end HT
namespace Rf
open PySem PySem.Spec L2
open PyProof.Rows hiding St
/-! ## data as the library knows it -/
mutual
def toP : D → Option PyData
  | .non => some .none
  | .bl b => some (.bool b)
  | .int i => some (.int i)
  | .str x => some (.str x)
  | .tup ds => match toPs ds with
    | some ps => some (.tuple ps)
    | none => none
  | .lst ds => match toPs ds with
    | some ps => some (.list ps)
    | none => none
  | .ro ds => match toPs ds with
    | some ps => some (.list ps)
    | none => none
  | .dct _ => none
  | .ref _ => none
  | .fn _ => none
  | .err _ _ => none
def toPs : List D → Option (List PyData)
  | [] => some []
  | d :: ds => match toP d, toPs ds with
    | some p, some ps => some (p :: ps)
    | _, _ => none
end
def toPd (x : D) (s : Sto) : Option PyData := match x with
  | .ref n => match s[n]? with
    | some (.lst ds) => match toPs ds with
      | some ps => some (.list ps)
      | none => none
    | _ => none
  | _ => toP x
section
variable {K : Kx} {ρ : List Addr} {H : Hp}
mutual
theorem toP_ok : ∀ (d : D) (v : V) (p : PyData), Rp K ρ H v d → toP d = some p → Dp K.K H v p
  | .non, _, p, .non, h => by simp only [toP] at h; cases h; exact .non
  | .bl b, _, p, .bl _, h => by simp only [toP] at h; cases h; exact .bl b
  | .int i, _, p, .int _, h => by simp only [toP] at h; cases h; exact .int i
  | .str y, _, p, .str _, h => by simp only [toP] at h; cases h; exact .str y
  | .tup ds, _, p, .tup f _ r, h => by
    simp only [toP] at h
    cases e : toPs ds with
    | none => rw [e] at h; cases h
    | some ps => rw [e] at h; cases h; exact .tup f.sq (toPs_ok ds _ ps r e)
  | .lst ds, _, p, .lst _ f _ r, h => by
    simp only [toP] at h
    cases e : toPs ds with
    | none => rw [e] at h; cases h
    | some ps => rw [e] at h; cases h; exact .lst (SqL.of f) (toPs_ok ds _ ps r e)
  | .ro ds, _, p, .ro f _ r, h => by
    simp only [toP] at h
    cases e : toPs ds with
    | none => rw [e] at h; cases h
    | some ps => rw [e] at h; cases h; exact .lst f.sq (toPs_ok ds _ ps r e)
  | .ref _, _, p, _, h => by simp only [toP] at h; cases h
theorem toPs_ok : ∀ (ds : List D) (vs : List V) (ps : List PyData), Rps K ρ H vs ds → toPs ds = some ps → DpAll K.K H vs ps
  | [], _, ps, .nil, h => by simp only [toPs] at h; cases h; exact .nil
  | d :: ds, _, ps, .cons q r, h => by
    simp only [toPs] at h
    cases e1 : toP d with
    | none => rw [e1] at h; cases h
    | some p =>
      cases e2 : toPs ds with
      | none => rw [e1, e2] at h; cases h
      | some qs => rw [e1, e2] at h; cases h; exact .cons (toP_ok d _ p q e1) (toPs_ok ds _ qs r e2)
end
theorem toPd_ok {v : V} {x : D} {s : Sto} {p : PyData} (hr : Hr K ρ H s) (r : Rp K ρ H v x) (h : toPd x s = some p) : Dp K.K H v p := by
  by_cases z : ∃ n, x = .ref n
  · obtain ⟨n, rfl⟩ := z
    cases r with
    | ref hn =>
      rename_i a
      have h' : (match s[n]? with | some (.lst ds) => (match toPs ds with | some ps => some (PyData.list ps) | none => none) | _ => none) = some p := h
      cases e : s[n]? with
      | none => rw [e] at h'; cases h'
      | some o =>
        rw [e] at h'
        cases o with
        | lst ds =>
          obtain ⟨xs, h1, h2, h3⟩ := hr.ob n a _ hn e
          have h2 : (match toPs ds with | some ps => some (PyData.list ps) | none => none) = some p := h'
          cases e2 : toPs ds with
          | none => rw [e2] at h2; cases h2
          | some ps => rw [e2] at h2; cases h2; exact .lst (SqL.of h1) (toPs_ok ds _ ps h3 e2)
        | dct => cases h'
        | ins => cases h'
  · have h' : toP x = some p := by
      unfold toPd at h
      split at h
      · exact absurd ⟨_, rfl⟩ z
      · exact h
    exact toP_ok x v p r h'
end
section
variable {X : Cx}
/-! ### == -/
def opEqP (neg : Bool) : Op2 := fun x y s => match toPd x s, toPd y s with
  | some p, some q => if p.canLay0 && q.canLay0 && decide (min p.depth q.depth ≤ 64) then .ok (.bl (if neg then !PyData.eqv p q else PyData.eqv p q)) s else .bad
  | _, _ => .bad
def opEq (neg : Bool) : Op2 := fun x y s => match x, y with
  | .str a, .str b => .ok (.bl (if neg then !decide (a = b) else decide (a = b))) s
  | .tup ds, .tup [] => .ok (.bl (if neg then !ds.isEmpty else ds.isEmpty)) s
  | x, y => opEqP neg x y s
def rEqP (K : PySem.W.Frag) (neg : Bool) : R2 := fun x y H Q => ∃ d e, Dp K H x d ∧ Dp K H y e ∧ d.canLay0 = true ∧ e.canLay0 = true ∧ min d.depth e.depth ≤ 64 ∧ Q (.bl (if neg then !PyData.eqv d e else PyData.eqv d e)) H
def rEqT (K : PySem.W.Frag) (neg : Bool) : R2 := fun x y H Q => ∃ a b xs, x = .ref a ∧ y = .ref b ∧ SqT K H a xs ∧ SqT K H b [] ∧ Q (.bl (if neg then !xs.isEmpty else xs.isEmpty)) H
def rEqA (K : PySem.W.Frag) (neg : Bool) : R2 := fun x y H Q => rEqP K neg x y H Q ∨ ((∃ a b, x = .str a ∧ y = .str b ∧ Q (.bl (if neg then !decide (a = b) else decide (a = b))) H) ∨ rEqT K neg x y H Q)
theorem sz_empty (n : Nat) : ((List.range (min n 0)).all (fun _ => true) && n == 0) = decide (n = 0) := by cases n <;> rfl
theorem empty_len {xs : List V} {us : List Value} (r : Vals xs us) : decide (us.toArray.size = 0) = xs.isEmpty := by cases r <;> rfl
theorem dec_str {a b : Str} : decide (V.str a = V.str b) = decide (a = b) := by
  by_cases h : a = b <;> simp [h]
theorem op_eqA (hu : X.A.units + 64 < cLine) : OpR X (compareOp .Eq) (rEqA X.K false) := by
  intro pins s σ H x y v u Q I rx ry h
  rcases h with ⟨d, e, hd, he, sd, se, hm, q⟩ | ⟨a, b, rfl, rfl, q⟩ | ⟨a, b, xs, rfl, rfl, ha, hb, q⟩
  · obtain ⟨as, r1⟩ := Dp.reads I d x v hd rx
    obtain ⟨bs, r2⟩ := Dp.reads I e y u he ry
    exact SeqAt.compareEq_reads r1 r2 sd se (by omega) ⟨.bl _, H, I, rfl, q⟩
  · exact op_eq pins s σ H _ _ v u Q I rx ry ⟨rfl, by rw [dec_str]; exact q⟩
  · cases (show v = Value.ref a from rx)
    cases (show u = Value.ref b from ry)
    obtain ⟨us, r1, p1, _⟩ := I.tuple ha
    obtain ⟨ws, r2, p2, _⟩ := I.tuple hb
    cases r2
    refine SeqAt.eq_tupleAt (e := fun _ => true) p1 p2 (by omega) (fun j _ h2 => absurd h2 (Nat.not_lt_zero j)) ?_
    rw [show (([] : List Value).toArray.size) = 0 from rfl, sz_empty, empty_len r1]
    exact ⟨.bl _, H, I, rfl, q⟩
theorem op_neA (hu : X.A.units + 64 < cLine) : OpR X (compareOp .NotEq) (rEqA X.K true) := by
  intro pins s σ H x y v u Q I rx ry h
  rcases h with ⟨d, e, hd, he, sd, se, hm, q⟩ | ⟨a, b, rfl, rfl, q⟩ | ⟨a, b, xs, rfl, rfl, ha, hb, q⟩
  · obtain ⟨as, r1⟩ := Dp.reads I d x v hd rx
    obtain ⟨bs, r2⟩ := Dp.reads I e y u he ry
    exact SeqAt.compareNe_reads r1 r2 sd se (by omega) ⟨.bl _, H, I, rfl, q⟩
  · exact op_ne pins s σ H _ _ v u Q I rx ry ⟨rfl, by rw [dec_str]; exact q⟩
  · cases (show v = Value.ref a from rx)
    cases (show u = Value.ref b from ry)
    obtain ⟨us, r1, p1, _⟩ := I.tuple ha
    obtain ⟨ws, r2, p2, _⟩ := I.tuple hb
    cases r2
    refine SeqAt.RcNeAt.tuples (e := fun _ => true) p1 p2 (by omega) (fun j _ h2 => absurd h2 (Nat.not_lt_zero j)) _ _ _ _ ?_
    rw [show (([] : List Value).toArray.size) = 0 from rfl, sz_empty, empty_len r1]
    exact ⟨.bl _, H, I, rfl, q⟩
theorem do_eqP (neg : Bool) : Do2 X (opEqP neg) (rEqP X.K neg) := by
  intro x y s ξ ρ H v u Q hr r1 r2 w
  unfold opEqP at w
  cases e1 : toPd x s with
  | none => rw [e1] at w; exact w.elim
  | some p =>
    cases e2 : toPd y s with
    | none => rw [e1, e2] at w; exact w.elim
    | some q =>
      rw [e1, e2] at w
      have w' : (if (p.canLay0 && q.canLay0 && decide (min p.depth q.depth ≤ 64)) = true then R.ok (D.bl (if neg then !PyData.eqv p q else PyData.eqv p q)) s else .bad).wp _ := w
      by_cases z : (p.canLay0 && q.canLay0 && decide (min p.depth q.depth ≤ 64)) = true
      · rw [if_pos z] at w'
        simp only [Bool.and_eq_true, decide_eq_true_eq] at z
        exact ⟨p, q, toPd_ok hr r1 e1, toPd_ok hr r2 e2, z.1.1, z.1.2, z.2, w' ρ H _ (.refl _ _) hr (.bl _)⟩
      · rw [if_neg z] at w'
        exact w'.elim
theorem do_eq (neg : Bool) : Do2 X (opEq neg) (rEqA X.K neg) := by
  intro x y s ξ ρ H v u Q hr r1 r2 w
  unfold opEq at w
  split at w
  · cases r1
    cases r2
    exact .inr (.inl ⟨_, _, rfl, rfl, w ρ H _ (.refl _ _) hr (.bl _)⟩)
  · cases r1 with
    | tup f z rs =>
      cases r2 with
      | tup f2 z2 rs2 =>
        cases rs2
        exact .inr (.inr ⟨_, _, _, rfl, rfl, f.sq, f2.sq, by rw [rs.isEmpty]; exact w ρ H _ (.refl _ _) hr (.bl _)⟩)
  · exact .inl (do_eqP neg _ _ s ξ ρ H v u Q hr r1 r2 w)
/-! ### in -/
def flatD : D → Bool
  | .non => true
  | .bl _ => true
  | .int _ => true
  | .str _ => true
  | _ => false
def eqF : D → D → Bool
  | .non, .non => true
  | .bl a, .bl b => a == b
  | .bl a, .int b => (if a then 1 else 0) == b
  | .int a, .bl b => a == (if b then 1 else 0)
  | .int a, .int b => a == b
  | .str a, .str b => a == b
  | _, _ => false
def inF (x : D) (ds : List D) : Bool := ds.any fun y => eqF y x
section
variable {K : Kx} {ρ : List Addr} {H : Hp}
theorem flatD_ok {v : V} {d : D} (r : Rp K ρ H v d) : flatV v = flatD d := by cases r <;> rfl
theorem flatDs_ok : ∀ {vs : List V} {ds : List D}, Rps K ρ H vs ds → vs.all flatV = ds.all flatD
  | _, _, .nil => rfl
  | _, _, .cons h r => by rw [List.all_cons, List.all_cons, flatD_ok h, flatDs_ok r]
theorem eqF_ok {v u : V} {d e : D} (r : Rp K ρ H v d) (q : Rp K ρ H u e) : eqV v u = eqF d e := by cases r <;> cases q <;> rfl
theorem inF_ok {v : V} {d : D} (h : Rp K ρ H v d) : ∀ {vs : List V} {ds : List D}, Rps K ρ H vs ds → inV v vs = inF d ds
  | _, _, .nil => rfl
  | _, _, .cons q r => by
    show (eqV _ v || inV v _) = (eqF _ d || inF d _)
    rw [eqF_ok q h, inF_ok h r]
end
def subS (a b : Str) : Bool := !(Builtin.Str.occurrences b a 0 b.length 1).isEmpty
/-- .. among data of any depth -/
def opInD (neg : Bool) : Op2 := fun x y s => match toPd x s, toPd y s with
  | some d, some (.list ps) => if SeqAt.shaped d && SeqAt.shaped (.list ps) then .ok (.bl (if neg then !(ps.any fun z => PyData.eqv z d) else ps.any fun z => PyData.eqv z d)) s else .bad
  | _, _ => .bad
def opIn (neg : Bool) : Op2 := fun x y s => match x, y with
  | .str a, .str b => .ok (.bl (if neg then !subS a b else subS a b)) s
  | x, .tup ds => if flatD x && ds.all flatD then .ok (.bl (if neg then !inF x ds else inF x ds)) s else .bad
  | x, y => match seqD y s with
    | some ds => if flatD x && ds.all flatD then .ok (.bl (if neg then !inF x ds else inF x ds)) s else opInD neg x y s
    | none => .bad
def rInDA (K : PySem.W.Frag) (neg : Bool) : R2 := fun x y H Q => ∃ d ds, Dp K H x d ∧ Dp K H y (.list ds) ∧ SeqAt.shaped d = true ∧ SeqAt.shaped (.list ds) = true ∧ Q (.bl (if neg then !(ds.any fun z => PyData.eqv z d) else ds.any fun z => PyData.eqv z d)) H
def rInA (K : PySem.W.Frag) (neg : Bool) : R2 := fun x y H Q => rIn K neg x y H Q ∨ ((∃ i j, x = .str i ∧ y = .str j ∧ Q (.bl (if neg then !subS i j else subS i j)) H) ∨ rInDA K neg x y H Q)
theorem op_inA (hu : X.A.units + 65 < cLine) : OpR X (compareOp .In) (rInA X.K false) := OpR.or op_in_seq (OpR.or op_in_str (op_inD hu))
theorem op_notInA (hu : X.A.units + 65 < cLine) : OpR X (compareOp .NotIn) (rInA X.K true) := OpR.or op_notIn_seq (OpR.or op_notin_str (op_notInD hu))
theorem do_in (neg : Bool) : Do2 X (opIn neg) (rInA X.K neg) := by
  intro x y s ξ ρ H v u Q hr r1 r2 w
  have go : ∀ (ds : List D) (p : Addr) (ys : List V), (SqL X.K H p ys ∨ SqT X.K H p ys) → Rps (X.kx ξ) ρ H ys ds → u = .ref p →
      (if (flatD x && ds.all flatD) = true then R.ok (D.bl (if neg then !inF x ds else inF x ds)) s else .bad).wp (fun d s' => ∀ ρ' H' v', Xt ρ H ρ' H' → Hr (X.kx ξ) ρ' H' s' → Rp (X.kx ξ) ρ' H' v' d → Q v' H') → rInA X.K neg v u H Q := by
    intro ds p ys hs q e w
    by_cases z : (flatD x && ds.all flatD) = true
    · rw [if_pos z] at w
      rw [Bool.and_eq_true] at z
      refine .inl ⟨p, ys, e, hs, by rw [flatD_ok r1]; exact z.1, by rw [flatDs_ok q]; exact z.2, ?_⟩
      rw [inF_ok r1 q]
      exact w ρ H _ (.refl _ _) hr (.bl _)
    · rw [if_neg z] at w
      exact w.elim
  have lists : (match seqD y s with
      | some ds => if flatD x && ds.all flatD then R.ok (D.bl (if neg then !inF x ds else inF x ds)) s else opInD neg x y s
      | none => .bad).wp (fun d s' => ∀ ρ' H' v', Xt ρ H ρ' H' → Hr (X.kx ξ) ρ' H' s' → Rp (X.kx ξ) ρ' H' v' d → Q v' H') → rInA X.K neg v u H Q := by
    intro w
    cases e : seqD y s with
    | none => rw [e] at w; exact w.elim
    | some ds =>
      rw [e] at w
      obtain ⟨p, ys, e1, h1, _, q⟩ := seqD_ok hr r2 e
      by_cases z : (flatD x && ds.all flatD) = true
      · refine go ds p ys (.inl h1) q e1 ?_
        have w2 : (if (flatD x && ds.all flatD) = true then R.ok (D.bl (if neg then !inF x ds else inF x ds)) s else opInD neg x y s).wp _ := w
        rw [if_pos z] at w2 ⊢
        exact w2
      · have w2 : (if (flatD x && ds.all flatD) = true then R.ok (D.bl (if neg then !inF x ds else inF x ds)) s else opInD neg x y s).wp _ := w
        rw [if_neg z] at w2
        unfold opInD at w2
        cases e3 : toPd x s with
        | none => rw [e3] at w2; exact w2.elim
        | some d =>
          cases e4 : toPd y s with
          | none => rw [e3, e4] at w2; exact w2.elim
          | some l =>
            rw [e3, e4] at w2
            cases l with
            | list ps =>
              have w3 : (if (SeqAt.shaped d && SeqAt.shaped (.list ps)) = true then R.ok (D.bl (if neg then !(ps.any fun z => PyData.eqv z d) else ps.any fun z => PyData.eqv z d)) s else .bad).wp _ := w2
              by_cases z2 : (SeqAt.shaped d && SeqAt.shaped (.list ps)) = true
              · rw [if_pos z2] at w3
                rw [Bool.and_eq_true] at z2
                exact .inr (.inr ⟨d, ps, toPd_ok hr r1 e3, toPd_ok hr r2 e4, z2.1, z2.2, w3 ρ H _ (.refl _ _) hr (.bl _)⟩)
              · rw [if_neg z2] at w3
                exact w3.elim
            | _ => exact w2.elim
  cases r2 with
  | tup f z q =>
    rename_i p ys ds
    exact go ds p ys (.inr f.sq) q rfl (by cases r1 <;> exact w)
  | str b =>
    cases r1 with
    | str a => exact .inr (.inl ⟨a, b, rfl, rfl, w ρ H _ (.refl _ _) hr (.bl _)⟩)
    | _ => exact lists w
  | _ => exact lists (by cases r1 <;> exact w)
/-! ### is None -/
def isN (x : D) : Bool := match x with
  | .non => true
  | _ => false
theorem isN_ok {K : Kx} {ρ : List Addr} {H : Hp} {v : V} {d : D} (r : Rp K ρ H v d) : decide (v = .non) = isN d := by cases r <;> rfl
def opIsN (neg : Bool) : Op1 := fun x s => .ok (.bl (if neg then !isN x else isN x)) s
theorem do_isN (neg : Bool) : Do1 X (opIsN neg) (fun x H Q => Q (.bl (if neg then !decide (x = .non) else decide (x = .non))) H) := by
  intro x s ξ ρ H v Q hr r1 w
  rw [isN_ok r1]
  exact w ρ H _ (.refl _ _) hr (.bl _)
/-! ### x[i] -/
def opIx : Op2 := fun x y s => match x, y with
  | .tup ds, .int i => match atI ds i with
    | some d => .ok d s
    | none => .bad
  | .str z, .int i => if z.length ≤ sizeLine then (match atI z.cps.toList i with
    | some c => .ok (.str ⟨#[c]⟩) s
    | none => .bad) else .bad
  | x, .int i => match seqD x s with
    | some ds => match atI ds i with
      | some d => .ok d s
      | none => .bad
    | none => .bad
  | _, _ => .bad
theorem atI_ok {K : Kx} {ρ : List Addr} {H : Hp} {vs : List V} {ds : List D} {i : Int} {d : D} (r : Rps K ρ H vs ds) (h : atI ds i = some d) : ∃ v, atI vs i = some v ∧ Rp K ρ H v d := by
  unfold atI at h ⊢
  rw [r.length]
  cases e : ixN ds.length i with
  | none => rw [e] at h; cases h
  | some j =>
    rw [e] at h
    exact r.get h
theorem do_ix : Do2 X opIx (rIx X.K) := by
  intro x y s ξ ρ H v u Q hr r1 r2 w
  cases r2 with
  | int i =>
    have lists : (match seqD x s with
      | some ds => (match atI ds i with
        | some d => R.ok d s
        | none => .bad)
      | none => .bad).wp (fun d s' => ∀ ρ' H' v', Xt ρ H ρ' H' → Hr (X.kx ξ) ρ' H' s' → Rp (X.kx ξ) ρ' H' v' d → Q v' H') → rIx X.K v (.int i) H Q := by
      intro w
      cases e : seqD x s with
      | none => rw [e] at w; exact w.elim
      | some ds =>
        rw [e] at w
        have w' : (match atI ds i with | some d => R.ok d s | none => .bad).wp _ := w
        cases e2 : atI ds i with
        | none => rw [e2] at w'; exact w'.elim
        | some d =>
          rw [e2] at w'
          obtain ⟨p, ys, e1, h1, _, q⟩ := seqD_ok hr r1 e
          obtain ⟨z, hz, rz⟩ := atI_ok q e2
          exact .inl ⟨p, ys, i, z, e1, rfl, h1, hz, w' ρ H _ (.refl _ _) hr rz⟩
    cases r1 with
    | tup f z q =>
      rename_i p ys ds
      have w' : (match atI ds i with | some d => R.ok d s | none => .bad).wp _ := w
      cases e2 : atI ds i with
      | none => rw [e2] at w'; exact w'.elim
      | some d =>
        rw [e2] at w'
        obtain ⟨z, hz, rz⟩ := atI_ok q e2
        exact .inr (.inl ⟨p, ys, i, z, rfl, rfl, f.sq, hz, w' ρ H _ (.refl _ _) hr rz⟩)
    | str z =>
      have w' : (if z.length ≤ sizeLine then (match atI z.cps.toList i with | some c => R.ok (D.str ⟨#[c]⟩) s | none => .bad) else .bad).wp _ := w
      by_cases hz : z.length ≤ sizeLine
      · rw [if_pos hz] at w'
        cases e2 : atI z.cps.toList i with
        | none => rw [e2] at w'; exact w'.elim
        | some c =>
          rw [e2] at w'
          exact .inr (.inr ⟨z, i, c, rfl, rfl, hz, e2, w' ρ H _ (.refl _ _) hr (.str _)⟩)
      · rw [if_neg hz] at w'
        exact w'.elim
    | _ => exact lists w
  | _ => cases r1 <;> exact w.elim
/-! ### x[a:b] -/
def cutD (ds : List D) (lo hi : Option Int) : List D := (ds.drop (HT.sIx ds.length 0 lo)).take (HT.sIx ds.length ds.length hi - HT.sIx ds.length 0 lo)
def opSl (m : Bool) (x : D) (lo hi : Option Int) (s : Sto) : R D := match x with
  | .tup ds => .ok (.tup (cutD ds lo hi)) s
  | .str z => if z.length ≤ sizeLine then .ok (.str (cutS z lo hi)) s else .bad
  | _ => match seqD x s with
    | some ds => newL m (cutD ds lo hi) s
    | none => .bad
theorem cutD_ok {K : Kx} {ρ : List Addr} {H : Hp} {vs : List V} {ds : List D} (r : Rps K ρ H vs ds) (lo hi : Option Int) : Rps K ρ H (cutV vs lo hi) (cutD ds lo hi) := by
  unfold cutV cutD
  rw [r.length]
  exact (r.drop _).take _
theorem cut_whole {α : Type} (xs : List α) (lo hi : Option Int) (h : HT.sIx xs.length 0 lo = 0 ∧ HT.sIx xs.length xs.length hi = xs.length) : (xs.drop (HT.sIx xs.length 0 lo)).take (HT.sIx xs.length xs.length hi - HT.sIx xs.length 0 lo) = xs := by
  rw [h.1, h.2]
  simp
def rSlAll (K : PySem.W.Frag) : V → Option Int → Option Int → Hp → VK → Prop := fun x lo hi H Q => rSlA K x lo hi H Q ∨ (rSlL K x lo hi H Q ∨ rSlS x lo hi H Q)
theorem sl_all : SlR X (rSlAll X.K) := SlR.or sl_tupA (SlR.or sl_list sl_str)
theorem do_sl (m : Bool) (x : D) (lo hi : Option Int) (s : Sto) (ξ ρ : List Addr) (H : Hp) (v : V) (Q : VK) (hr : Hr (X.kx ξ) ρ H s) (r1 : Rp (X.kx ξ) ρ H v x)
    (w : (opSl m x lo hi s).wp (fun d s' => ∀ ρ' H' v', Xt ρ H ρ' H' → Hr (X.kx ξ) ρ' H' s' → Rp (X.kx ξ) ρ' H' v' d → Q v' H')) : rSlAll X.K v lo hi H Q := by
  have lists : (match seqD x s with
    | some ds => newL m (cutD ds lo hi) s
    | none => .bad).wp (fun d s' => ∀ ρ' H' v', Xt ρ H ρ' H' → Hr (X.kx ξ) ρ' H' s' → Rp (X.kx ξ) ρ' H' v' d → Q v' H') → rSlAll X.K v lo hi H Q := by
    intro w
    cases e : seqD x s with
    | none => rw [e] at w; exact w.elim
    | some ds =>
      rw [e] at w
      obtain ⟨p, ys, e1, h1, z, q⟩ := seqD_ok hr r1 e
      exact .inr (.inl ⟨p, ys, e1, h1, fun q' hq => newL_ok hr hq (Nat.le_trans (cutV_length _ _ _) z) (cutD_ok q lo hi) w⟩)
  cases r1 with
  | tup f z q =>
    rename_i p ys ds
    have w' : (R.ok (D.tup (cutD ds lo hi)) s).wp (fun d s' => ∀ ρ' H' v', Xt ρ H ρ' H' → Hr (X.kx ξ) ρ' H' s' → Rp (X.kx ξ) ρ' H' v' d → Q v' H') := w
    refine .inl ⟨p, ys, rfl, f.sq, fun hw => ?_, fun _ q' hq => newT_ok hr hq (Nat.le_trans (cutV_length _ _ _) z) (cutD_ok q lo hi) w'⟩
    refine w' ρ H _ (.refl _ _) hr ?_
    have e : cutD ds lo hi = ds := cut_whole ds lo hi (by rw [← q.length]; exact hw)
    rw [e]
    exact .tup f z q
  | str z =>
    have w' : (if z.length ≤ sizeLine then R.ok (D.str (cutS z lo hi)) s else .bad).wp _ := w
    by_cases hz : z.length ≤ sizeLine
    · rw [if_pos hz] at w'
      exact .inr (.inr ⟨z, rfl, hz, w' ρ H _ (.refl _ _) hr (.str _)⟩)
    · rw [if_neg hz] at w'
      exact w'.elim
  | _ => exact lists w
def mPart (o : Option ME) : Ev → Sto → R (Option Int) := fun env st => match o with
  | none => .ok none st
  | some a => (a env st).bd fun x s => match x with
    | .int i => .ok (some i) s
    | _ => .bad
def mSl (m : Bool) (a : ME) (lo hi : Option ME) : ME := fun env st => (a env st).bd fun x s => (mPart lo env s).bd fun l s1 => (mPart hi env s1).bd fun h s2 => opSl m x l h s2
def SO (X : Cx) (e : Option Expr) (o : Option ME) : Prop := match e, o with
  | none, none => True
  | some e, some m => SE X e m
  | _, _ => False
theorem so_ok {e : Option Expr} {o : Option ME} (h : SO X e o) : ∃ t, PO X e t ∧ ∀ (ξ ρ : List Addr) (H : Hp) (σ : L2.St) (env : Ev) (st : Sto) (Q : Option Int → Hp → Prop), Er (X.kx ξ) ρ H σ env → Hr (X.kx ξ) ρ H st →
    (mPart o env st).wp (fun i st' => ∀ ρ' H', Xt ρ H ρ' H' → Hr (X.kx ξ) ρ' H' st' → Q i H') → t σ H Q := by
  cases e with
  | none =>
    cases o with
    | none => exact ⟨_, po_none, fun ξ ρ H σ env st Q _ hr w => w ρ H (.refl _ _) hr⟩
    | some m => exact h.elim
  | some e =>
    cases o with
    | none => exact h.elim
    | some m =>
      have h' : SE X e m := h
      refine ⟨_, po_some pe_re, fun ξ ρ H σ env st Q e0 hr w => ?_⟩
      refine h' ξ ρ H σ env st _ e0 hr (R.wp_mono (R.wp_bd.mp w) fun x s w1 ρ1 H1 v x1 h1 r1 => ?_)
      cases r1 with
      | int i => exact ⟨i, rfl, w1 ρ1 H1 x1 h1⟩
      | _ => exact w1.elim
theorem se_sl {m : Bool} {a : Expr} {lo hi : Option Expr} {ma : ME} {ol oh : Option ME} {p2 pos : Pos} (ha : SE X a ma) (hl : SO X lo ol) (hh : SO X hi oh) : SE X (.Subscript a (.Slice lo hi none p2) pos) (mSl m ma ol oh) := fun ξ ρ H σ env st Q e0 hr w => by
  obtain ⟨tl, pl, kl⟩ := so_ok hl
  obtain ⟨th, ph, kh⟩ := so_ok hh
  refine (pe_slice sl_all pe_re pl ph).re ?_
  refine ha ξ ρ H σ env st _ e0 hr (R.wp_mono (R.wp_bd.mp w) fun x s w1 ρ1 H1 v x1 h1 r1 => ?_)
  refine kl ξ ρ1 H1 σ env s _ (e0.xt x1) h1 (R.wp_mono (R.wp_bd.mp w1) fun l s1 w2 ρ2 H2 x2 h2 => ?_)
  refine kh ξ ρ2 H2 σ env s1 _ (e0.xt (x1.trans x2)) h2 (R.wp_mono (R.wp_bd.mp w2) fun h s2 w3 ρ3 H3 x3 h3 => ?_)
  exact do_sl m x l h s2 ξ ρ3 H3 v Q h3 (r1.xt (x2.trans x3)) (R.wp_mono w3 fun d s' k ρ' H' v' x' => k ρ' H' v' (((x1.trans x2).trans x3).trans x'))
/-- x[::-1] of a list -/
def tRevT (K : PySem.W.Frag) (te : TE) : TE := fun σ H Q => te σ H fun v H1 => ∃ t ys, v = .ref t ∧ SqT K H1 t ys ∧ ∀ p, H1 p = none → Q (.ref p) (upd H1 p (.tup ys.reverse))
theorem pe_revT {e : Expr} {te : TE} {j : Nat} {p1 p2 p3 pos : Pos} (he : PE X e te) : PE X (.Subscript e (.Slice none none (some (.UnaryOp .USub (.Constant (.int 1) j p1) p2)) p3) pos) (tRevT X.K te) := by
  refine ⟨fun pins s σ H Q I h => Subscript_ (thn (he.run pins s σ H _ I h) fun v s1 ⟨y, H1, I1, rv, z⟩ => ?_)⟩
  obtain ⟨b, ys, rfl, hy, z⟩ := z
  cases rv
  have back : PO X (some (.UnaryOp .USub (.Constant (.int 1) j p1) p2)) (tPart (tUn (rU fun i => .int (-i)) (tC (.int 1)))) := po_some (pe_un un_neg pe_int)
  refine wpAny_Slice (thn (po_none.run pins s1 σ H1 (fun o G => o = none ∧ G = H1) I1 ⟨rfl, rfl⟩) fun a1 s2 ⟨o1, G1, J1, t1, f1, g1⟩ => ?_)
  subst f1 g1
  refine thn (po_none.run pins s2 σ G1 (fun o G => o = none ∧ G = G1) J1 ⟨rfl, rfl⟩) fun a2 s3 ⟨o2, G2, J2, t2, f2, g2⟩ => ?_
  subst f2 g2
  refine thn (back.run pins s3 σ G2 (fun o G => o = some (-1) ∧ G = G2) J2 ⟨1, rfl, -1, rfl, rfl, rfl⟩) fun a3 s4 ⟨o3, G3, J3, t3, f3, g3⟩ => ?_
  subst f3 g3
  obtain rfl : a1 = .none := by cases t1; rfl
  obtain rfl : a2 = .none := by cases t2; rfl
  obtain ⟨tk, rfl⟩ : ∃ tk, a3 = .int (-1) tk := by cases t3; exact ⟨_, rfl⟩
  have J4 : L2.Inv X pins σ G3 { s4 with heap := s4.heap.push { cls := .type "slice", data := .fields #[.none, .none, .int (-1) tk] } } := J3.kept (t' := s4.toks) fun c ob q => Heap.get?_push_of_some _ q
  obtain ⟨its, r, it, hz⟩ := J4.tuple hy
  have hl := r.length
  show wpAny (model X.prog X.w) X.A (subscriptTail e (.Slice none none (some (.UnaryOp .USub (.Constant (.int 1) j p1) p2)) p3) (.ref b) (.ref s4.heap.objs.size)) (EP X pins σ Q) X.xe { s4 with heap := s4.heap.push { cls := .type "slice", data := .fields #[.none, .none, .int (-1) tk] } }
  refine tail_any (ops := [.ref b, .ref s4.heap.objs.size]) it.typeIs (PyProof.Rows.slot_tuple_getitem.lookup) ?_ (by with_unfolding_all rfl)
  refine HT.getItem_tuple_rev it (Heap.IsSliceOf.new _ .none .none (.int (-1) tk)) ?_ (by rw [List.size_toArray]; omega)
  refine ⟨.ref _, _, J4.laid (t' := s4.toks) (o := .tup ys.reverse) (fun c ob q => Heap.get?_push_of_some _ q) (Nat.le_refl _) ?_, rfl, z _ (J4.hok.fresh (Nat.le_refl _))⟩
  exact ⟨by rw [List.length_reverse]; exact hz, its.reverse, r.reverse, IsTup.new _ _⟩
def opRev (m : Bool) : Op1 := fun x s => match x with
  | .tup ds => .ok (.tup ds.reverse) s
  | x => match seqD x s with
    | some ds => newL m ds.reverse s
    | none => .bad
theorem se_rev {m : Bool} {a : Expr} {ma : ME} {k : Nat} {p1 p2 p3 pos : Pos} (ha : SE X a ma) : SE X (.Subscript a (.Slice none none (some (.UnaryOp .USub (.Constant (.int 1) k p1) p2)) p3) pos) (mOp1 (opRev m) ma) := fun ξ ρ H σ env st Q e0 hr w => by
  cases e1 : ma env st with
  | ex => exact ((show (R.bd (ma env st) _).wp _ from w) |> fun z => by rw [e1] at z; exact z.elim)
  | bad => exact ((show (R.bd (ma env st) _).wp _ from w) |> fun z => by rw [e1] at z; exact z.elim)
  | ok x s =>
    have w1 : (opRev m x s).wp (fun d st' => ∀ ρ' H' v, Xt ρ H ρ' H' → Hr (X.kx ξ) ρ' H' st' → Rp (X.kx ξ) ρ' H' v d → Q v H') := by
      have z : (R.bd (ma env st) fun x s => opRev m x s).wp _ := w
      rw [e1] at z
      exact z
    unfold opRev at w1
    split at w1
    · refine (pe_revT pe_re).re (ha ξ ρ H σ env st _ e0 hr ?_)
      rw [e1]
      intro ρ1 H1 v x1 h1 r1
      cases r1 with
      | tup f z rs => exact ⟨_, _, rfl, f.sq, fun q' hq => newT_ok h1 hq (by simpa using z) rs.rev fun ρ' H' v' x' => w1 ρ' H' v' (x1.trans x')⟩
    · refine (pe_revL pe_re).re (ha ξ ρ H σ env st _ e0 hr ?_)
      rw [e1]
      intro ρ1 H1 v x1 h1 r1
      cases e : seqD x s with
      | none => rw [e] at w1; exact w1.elim
      | some ds =>
        rw [e] at w1
        obtain ⟨p, ys, e1, hs, z, q⟩ := seqD_ok h1 r1 e
        exact ⟨p, ys, e1, hs, fun q' hq => newL_ok h1 hq (by simpa using z) q.rev (R.wp_mono w1 fun d s' k ρ' H' v' x' => k ρ' H' v' (x1.trans x'))⟩
end
end Rf
set_option maxHeartbeats 4000000
namespace Rf
open PySem PySem.Spec L2
open PyProof.Rows hiding St
/-! ## displays, built-in functions -/
section
variable {X : Cx}
def opTup : List D → Sto → R D := fun ds s => if ds.length ≤ 1000 then .ok (.tup ds) s else .bad
def opLst (m : Bool) : List D → Sto → R D := fun ds s => if ds.length ≤ 1000 then newL m ds s else .bad
theorem line1000 {n : Nat} (h : n ≤ 1000) : n ≤ sizeLine := Nat.le_of_lt (small1000 h)
theorem do_tup : DoN X opTup (fun xs H Q => xs.length ≤ sizeLine ∧ ∀ p, H p = none → Q (.ref p) (upd H p (.tup xs))) := by
  intro xs s ξ ρ H vs Q hr r w
  have w' : (if xs.length ≤ 1000 then R.ok (D.tup xs) s else .bad).wp _ := w
  by_cases z : xs.length ≤ 1000
  · rw [if_pos z] at w'
    have z' : vs.length ≤ sizeLine := by rw [r.length]; exact line1000 z
    exact ⟨z', fun p hp => newT_ok hr hp z' r w'⟩
  · rw [if_neg z] at w'; exact w'.elim
theorem do_lst (m : Bool) : DoN X (opLst m) (fun xs H Q => xs.length ≤ sizeLine ∧ ∀ p, H p = none → Q (.ref p) (upd H p (.lst xs))) := by
  intro xs s ξ ρ H vs Q hr r w
  have w' : (if xs.length ≤ 1000 then newL m xs s else .bad).wp _ := w
  by_cases z : xs.length ≤ 1000
  · rw [if_pos z] at w'
    have z' : vs.length ≤ sizeLine := by rw [r.length]; exact line1000 z
    exact ⟨z', fun p hp => newL_ok hr hp z' r w'⟩
  · rw [if_neg z] at w'; exact w'.elim
theorem se_tup {es : List Expr} {ma : MA} {k : Nat} {pos : Pos} (h : SA X es ma) : SE X (.Tuple es k pos) (mOpN opTup ma) := se_opN (pe_tup pa_ra) h do_tup
theorem se_lst {es : List Expr} {ma : MA} {pos : Pos} (m : Bool) (h : SA X es ma) : SE X (.List es pos) (mOpN (opLst m) ma) := se_opN (pe_lst pa_ra) h (do_lst m)
/-- {} -/
def mDct : ME := fun _ st => .ok (.dct []) st
theorem se_dct {pos : Pos} : SE X (.Dict [] [] pos) mDct := fun ξ ρ H σ env s Q e0 hr w => by
  refine pe_dnewK.re fun p hp => ?_
  exact w ρ _ _ (.same (same_upd hp)) (hr.same (same_upd hp)) (.dct (hr.new hp) upd_same)
/-! ### isinstance -/
inductive Ty where
  | none | bool | int | str | tuple | list | dict
  deriving DecidableEq
def Ty.nm : Ty → String
  | .none => "NoneType" | .bool => "bool" | .int => "int" | .str => "str" | .tuple => "tuple" | .list => "list" | .dict => "dict"
def Ty.sub : Ty → Ty → Bool
  | .bool, .int => true
  | a, b => a = b
theorem Ty.kit (a b : Ty) : kitB a.nm b.nm = some (a.sub b) := by cases a <;> cases b <;> decide +kernel
def tyD (x : D) (s : Sto) : Option Ty := match x with
  | .non => some .none
  | .bl _ => some .bool
  | .int _ => some .int
  | .str _ => some .str
  | .tup _ => some .tuple
  | .lst _ => some .list
  | .ro _ => some .list
  | .dct _ => some .dict
  | .ref n => match s[n]? with
    | some (.lst _) => some .list
    | _ => none
  | _ => none
theorem tyD_ok {K : Kx} {ρ : List Addr} {H : Hp} {v : V} {x : D} {s : Sto} {t : Ty} (hr : Hr K ρ H s) (r : Rp K ρ H v x) (h : tyD x s = some t) : TyX K.K H v (.type t.nm) := by
  cases r with
  | non => cases h; exact .base .non
  | bl b => cases h; exact .base (.bl b)
  | int i => cases h; exact .base (.int i)
  | str y => cases h; exact .base (.str y)
  | tup f z q =>
    cases h
    rcases f with ⟨_, f⟩ | ⟨o, its, n, e1, e2, _⟩
    · rcases f with f | ⟨o, f⟩
      · exact .base (.tup f)
      · exact .fTuple f
    · exact .kTuple e1 e2
  | lst n f z q => cases h; exact .base (.lst f)
  | ro f z q =>
    cases h
    rcases f with ⟨_, f⟩ | ⟨o, its, n, e1, e2, _⟩
    · rcases f with f | ⟨o, f⟩
      · exact .base (.lst f)
      · exact .base (.frz f)
    · exact .kList e1 e2
  | ref hn =>
    rename_i a n
    have h' : (match s[n]? with | some (.lst _) => some Ty.list | _ => none) = some t := h
    cases e : s[n]? with
    | none => rw [e] at h'; cases h'
    | some o =>
      rw [e] at h'
      cases o with
      | lst ds =>
        cases h'
        obtain ⟨xs, h1, _, _⟩ := hr.ob n a _ hn e
        exact .base (.lst h1)
      | dct => cases h'
      | ins => cases h'
  | dct n h1 => cases h; exact .base (.dK h1)
def opIsi (t : Ty) : Op1 := fun x s => match tyD x s with
  | some u => .ok (.bl (u.sub t)) s
  | none => .bad
theorem boot_ty (t : Ty) (h : t ≠ .none) : bootBuiltins (PySem.Str.ofString t.nm) = some (.type t.nm) := by
  cases t
  · exact absurd rfl h
  all_goals decide +kernel
theorem boot_isi : bootBuiltins "isinstance" = some (.builtin "isinstance") := by decide +kernel
theorem se_isi {G : Gi} {F : Fn} {a : Expr} {ma : ME} {t : Ty} {p p2 pos : Pos} (W : Wd X G F) (ht : t ≠ .none) (hg : Gl X "isinstance") (hg2 : Gl X (PySem.Str.ofString t.nm)) (hm : X.mg (PySem.Str.ofString t.nm) = none) (hp : plainArg a = true) (ha : SE X a ma) :
    SE X (.Call (.Name "isinstance" p) [a, .Name (PySem.Str.ofString t.nm) p2] [] pos) (mOp1 (opIsi t) ma) := fun ξ ρ H σ env st Q e0 hr w => by
  have hm1 : X.mg "isinstance" = none := W.bl ("isinstance", .builtin "isinstance") (by simp [blts])
  have hn : PySem.Str.ofString t.nm ≠ "__name__" := by cases t <;> decide
  have hd : (PySem.Str.ofString t.nm == ("__debug__" : Str)) = false := by cases t <;> decide
  refine (pe_callB call_isi hg hm1 boot_isi (pa_cons pe_re (pa_cons (pe_bltn (v := .ty t.nm) (u := .type t.nm) hg2 hm (boot_ty t ht) rfl hn hd) pa_nil) (star_cons hp)) (by decide) (by decide) (star_cons hp)).re ?_
  refine ha ξ ρ H σ env st _ e0 hr (R.wp_mono (R.wp_bd.mp w) fun x s w1 ρ1 H1 v x1 h1 r1 => ?_)
  unfold opIsi at w1
  cases e : tyD x s with
  | none => rw [e] at w1; exact w1.elim
  | some u =>
    rw [e] at w1
    exact ⟨v, .ty t.nm, .type u.nm, .type t.nm, u.sub t, rfl, .ty _, tyD_ok h1 r1 e, kit_ty (Ty.kit u t), w1 ρ1 H1 _ x1 h1 (.bl _)⟩
/-! ### len, abs, max, min, int, divmod, gcd, all, any, sum, tuple, list, str, repr -/
theorem Rps.one {K : Kx} {ρ : List Addr} {H : Hp} {vs : List V} {d : D} (r : Rps K ρ H vs [d]) : ∃ v, vs = [v] ∧ Rp K ρ H v d := by
  cases r with
  | cons h t => cases t; exact ⟨_, rfl, h⟩
theorem Rps.two {K : Kx} {ρ : List Addr} {H : Hp} {vs : List V} {d e : D} (r : Rps K ρ H vs [d, e]) : ∃ v u, vs = [v, u] ∧ Rp K ρ H v d ∧ Rp K ρ H u e := by
  cases r with
  | cons h t =>
    obtain ⟨u, rfl, q⟩ := t.one
    exact ⟨_, _, rfl, h, q⟩
def un1 (f : Op1) : List D → Sto → R D := fun xs s => match xs with
  | [x] => f x s
  | _ => .bad
def un2 (f : Op2) : List D → Sto → R D := fun xs s => match xs with
  | [x, y] => f x y s
  | _ => .bad
theorem do_un1 {f : Op1} {r : List V → Hp → VK → Prop} (h : Do1 X f (fun v H Q => r [v] H Q)) : DoN X (un1 f) r := by
  intro xs s ξ ρ H vs Q hr q w
  unfold un1 at w
  split at w
  · obtain ⟨v, rfl, q1⟩ := q.one
    exact h _ s ξ ρ H v Q hr q1 w
  · exact w.elim
theorem do_un2 {f : Op2} {r : List V → Hp → VK → Prop} (h : Do2 X f (fun v u H Q => r [v, u] H Q)) : DoN X (un2 f) r := by
  intro xs s ξ ρ H vs Q hr q w
  unfold un2 at w
  split at w
  · obtain ⟨v, u, rfl, q1, q2⟩ := q.two
    exact h _ _ s ξ ρ H v u Q hr q1 q2 w
  · exact w.elim
def opLen : Op1 := fun x s => match x with
  | .str z => if z.length ≤ sizeLine then .ok (.int z.length) s else .bad
  | .tup ds => .ok (.int ds.length) s
  | x => match seqD x s with
    | some ds => .ok (.int ds.length) s
    | none => .bad
def rLen (K : PySem.W.Frag) : List V → Hp → VK → Prop := fun xs H Q => ∃ x n, xs = [x] ∧ LenV K x H n ∧ Q (.int n) H
theorem do_len : Do1 X opLen (fun v H Q => rLen X.K [v] H Q) := by
  intro x s ξ ρ H v Q hr r1 w
  have lists : (match seqD x s with
    | some ds => R.ok (D.int ds.length) s
    | none => .bad).wp (fun d s' => ∀ ρ' H' v', Xt ρ H ρ' H' → Hr (X.kx ξ) ρ' H' s' → Rp (X.kx ξ) ρ' H' v' d → Q v' H') → rLen X.K [v] H Q := by
    intro w
    cases e : seqD x s with
    | none => rw [e] at w; exact w.elim
    | some ds =>
      rw [e] at w
      obtain ⟨p, ys, rfl, h1, z, q⟩ := seqD_ok hr r1 e
      exact ⟨_, ds.length, rfl, .inl ⟨ys, h1, q.length.symm⟩, w ρ H _ (.refl _ _) hr (.int _)⟩
  cases r1 with
  | str z =>
    have w' : (if z.length ≤ sizeLine then R.ok (D.int z.length) s else .bad).wp _ := w
    by_cases hz : z.length ≤ sizeLine
    · rw [if_pos hz] at w'
      exact ⟨_, z.length, rfl, ⟨hz, rfl⟩, w' ρ H _ (.refl _ _) hr (.int _)⟩
    · rw [if_neg hz] at w'; exact w'.elim
  | tup f z q => exact ⟨_, _, rfl, .inr ⟨_, f.sq, q.length.symm⟩, w ρ H _ (.refl _ _) hr (.int _)⟩
  | _ => exact lists w
def opAbs : List D → Sto → R D := fun xs s => match xs with
  | [.int i] => .ok (.int (if i < 0 then -i else i)) s
  | _ => .bad
def opMax : List D → Sto → R D := fun xs s => match xs with
  | [.int i, .int j] => .ok (.int (if j > i then j else i)) s
  | _ => .bad
def opMin : List D → Sto → R D := fun xs s => match xs with
  | [.int i, .int j] => .ok (.int (if j < i then j else i)) s
  | _ => .bad
def opInt : List D → Sto → R D := fun xs s => match xs with
  | [.int i] => .ok (.int i) s
  | [.bl k] => .ok (.int (if k then 1 else 0)) s
  | _ => .bad
def opDm : List D → Sto → R D := fun xs s => match xs with
  | [.int i, .int j] => if divB i j then .ok (.tup [.int (i.fdiv j), .int (i.fmod j)]) s else .bad
  | _ => .bad
def opGcd : List D → Sto → R D := fun xs s => match xs with
  | [.int i, .int j] => .ok (.int ((Nat.gcd i.natAbs j.natAbs : Nat) : Int)) s
  | _ => .bad
theorem do_abs : DoN X opAbs (fun xs H Q => ∃ i, xs = [.int i] ∧ Q (.int (if i < 0 then -i else i)) H) := by
  intro xs s ξ ρ H vs Q hr r w
  unfold opAbs at w
  split at w
  · obtain ⟨v, rfl, q⟩ := r.one
    cases q
    exact ⟨_, rfl, w ρ H _ (.refl _ _) hr (.int _)⟩
  · exact w.elim
theorem do_max : DoN X opMax (fun xs H Q => ∃ i j, xs = [.int i, .int j] ∧ Q (.int (if j > i then j else i)) H) := by
  intro xs s ξ ρ H vs Q hr r w
  unfold opMax at w
  split at w
  · obtain ⟨v, u, rfl, q, q2⟩ := r.two
    cases q; cases q2
    exact ⟨_, _, rfl, w ρ H _ (.refl _ _) hr (.int _)⟩
  · exact w.elim
theorem do_min : DoN X opMin (fun xs H Q => ∃ i j, xs = [.int i, .int j] ∧ Q (.int (if j < i then j else i)) H) := by
  intro xs s ξ ρ H vs Q hr r w
  unfold opMin at w
  split at w
  · obtain ⟨v, u, rfl, q, q2⟩ := r.two
    cases q; cases q2
    exact ⟨_, _, rfl, w ρ H _ (.refl _ _) hr (.int _)⟩
  · exact w.elim
theorem do_int : DoN X opInt (fun xs H Q => (∃ i, xs = [.int i] ∧ Q (.int i) H) ∨ ∃ k, xs = [.bl k] ∧ Q (.int (if k then 1 else 0)) H) := by
  intro xs s ξ ρ H vs Q hr r w
  unfold opInt at w
  split at w
  · obtain ⟨v, rfl, q⟩ := r.one
    cases q
    exact .inl ⟨_, rfl, w ρ H _ (.refl _ _) hr (.int _)⟩
  · obtain ⟨v, rfl, q⟩ := r.one
    cases q
    exact .inr ⟨_, rfl, w ρ H _ (.refl _ _) hr (.int _)⟩
  · exact w.elim
def rDm : List V → Hp → VK → Prop := fun xs H Q => ∃ i j, xs = [.int i, .int j] ∧ divB i j = true ∧ ∀ p, H p = none → Q (.ref p) (upd H p (.tup [.int (i.fdiv j), .int (i.fmod j)]))
theorem call_dmA : CallR X (.builtin "divmod") rDm := by
  intro pins s σ H xs us Q I r ⟨i, j, ex, hd, q⟩
  subst ex
  unfold divB at hd
  rw [Bool.and_eq_true] at hd
  obtain ⟨u, w', rfl, ⟨t, rfl⟩, ⟨t', rfl⟩⟩ := vals2 r
  refine divmod_int (of_decide_eq_true hd.1) ?_ (.inl (PyProof.noPylong_of_log2 (of_decide_eq_true hd.2)))
  exact ⟨.ref s.heap.objs.size, _, I.laid (o := .tup [.int (i.fdiv j), .int (i.fmod j)]) (fun b o e => Heap.get?_push_of_some _ e) (Nat.le_refl _) ⟨line1000 (by simp), [.int (i.fdiv j) s.toks, .int (i.fmod j) (s.toks + 1)], .cons ⟨_, rfl⟩ (.cons ⟨_, rfl⟩ .nil), ⟨_, Heap.get?_push_size s.heap rfl, rfl, 0, rfl⟩⟩, rfl, q _ (I.hok.fresh (Nat.le_refl _))⟩
theorem do_dm : DoN X opDm rDm := by
  intro xs s ξ ρ H vs Q hr r w
  unfold opDm at w
  split at w
  · rename_i i j
    obtain ⟨v, u, rfl, q, q2⟩ := r.two
    cases q; cases q2
    by_cases z : divB i j = true
    · rw [if_pos z] at w
      exact ⟨i, j, rfl, z, fun p hp => newT_ok hr hp (line1000 (by simp)) (.cons (.int _) (.cons (.int _) .nil)) w⟩
    · rw [if_neg z] at w; exact w.elim
  · exact w.elim
theorem do_gcd : DoN X opGcd rGcd := by
  intro xs s ξ ρ H vs Q hr r w
  unfold opGcd at w
  split at w
  · obtain ⟨v, u, rfl, q, q2⟩ := r.two
    cases q; cases q2
    exact ⟨_, _, rfl, w ρ H _ (.refl _ _) hr (.int _)⟩
  · exact w.elim
/-- a list of truths, of ints -/
def bls : List D → Option (List Bool)
  | [] => some []
  | .bl b :: r => match bls r with
    | some bs => some (b :: bs)
    | none => none
  | _ => none
def intsD : List D → Option (List Int)
  | [] => some []
  | .int b :: r => match intsD r with
    | some bs => some (b :: bs)
    | none => none
  | _ => none
def strsD : List D → Option (List Str)
  | [] => some []
  | .str b :: r => match strsD r with
    | some bs => some (b :: bs)
    | none => none
  | _ => none
theorem bls_eq : ∀ {ds : List D} {bs : List Bool}, bls ds = some bs → ds = bs.map D.bl
  | [], bs, h => by cases h; rfl
  | .bl b :: r, bs, h => by
    have h' : (match bls r with | some bs => some (b :: bs) | none => none) = some bs := h
    cases e : bls r with
    | none => rw [e] at h'; cases h'
    | some cs => rw [e] at h'; cases h'; rw [bls_eq e]; rfl
  | .non :: _, _, h => nomatch h
  | .int _ :: _, _, h => nomatch h
  | .str _ :: _, _, h => nomatch h
  | .tup _ :: _, _, h => nomatch h
  | .lst _ :: _, _, h => nomatch h
  | .ro _ :: _, _, h => nomatch h
  | .dct _ :: _, _, h => nomatch h
  | .ref _ :: _, _, h => nomatch h
  | .fn _ :: _, _, h => nomatch h
  | .err _ _ :: _, _, h => nomatch h
theorem intsD_eq : ∀ {ds : List D} {bs : List Int}, intsD ds = some bs → ds = bs.map D.int
  | [], bs, h => by cases h; rfl
  | .int b :: r, bs, h => by
    have h' : (match intsD r with | some bs => some (b :: bs) | none => none) = some bs := h
    cases e : intsD r with
    | none => rw [e] at h'; cases h'
    | some cs => rw [e] at h'; cases h'; rw [intsD_eq e]; rfl
  | .non :: _, _, h => nomatch h
  | .bl _ :: _, _, h => nomatch h
  | .str _ :: _, _, h => nomatch h
  | .tup _ :: _, _, h => nomatch h
  | .lst _ :: _, _, h => nomatch h
  | .ro _ :: _, _, h => nomatch h
  | .dct _ :: _, _, h => nomatch h
  | .ref _ :: _, _, h => nomatch h
  | .fn _ :: _, _, h => nomatch h
  | .err _ _ :: _, _, h => nomatch h
theorem strsD_eq : ∀ {ds : List D} {bs : List Str}, strsD ds = some bs → ds = bs.map D.str
  | [], bs, h => by cases h; rfl
  | .str b :: r, bs, h => by
    have h' : (match strsD r with | some bs => some (b :: bs) | none => none) = some bs := h
    cases e : strsD r with
    | none => rw [e] at h'; cases h'
    | some cs => rw [e] at h'; cases h'; rw [strsD_eq e]; rfl
  | .non :: _, _, h => nomatch h
  | .bl _ :: _, _, h => nomatch h
  | .int _ :: _, _, h => nomatch h
  | .tup _ :: _, _, h => nomatch h
  | .lst _ :: _, _, h => nomatch h
  | .ro _ :: _, _, h => nomatch h
  | .dct _ :: _, _, h => nomatch h
  | .ref _ :: _, _, h => nomatch h
  | .fn _ :: _, _, h => nomatch h
  | .err _ _ :: _, _, h => nomatch h
/-- a function of one list of truths (of ints) -/
def opBls (g : List Bool → D) : List D → Sto → R D := fun xs s => match xs with
  | [x] => match seqD x s with
    | some ds => match bls ds with
      | some bs => .ok (g bs) s
      | none => .bad
    | none => .bad
  | _ => .bad
def opInts (g : List Int → D) : List D → Sto → R D := fun xs s => match xs with
  | [x] => match seqD x s with
    | some ds => match intsD ds with
      | some bs => .ok (g bs) s
      | none => .bad
    | none => .bad
  | _ => .bad
theorem do_bls {g : List Bool → D} {gv : List Bool → V} (hg : ∀ ξ ρ H bs, Rp (X.kx ξ) ρ H (gv bs) (g bs)) : DoN X (opBls g) (fun vs H Q => ∃ (a : Addr) (bs : List Bool), vs = [V.ref a] ∧ SqL X.K H a (bs.map V.bl) ∧ Q (gv bs) H) := by
  intro xs s ξ ρ H vs Q hr r w
  unfold opBls at w
  split at w
  · rename_i x
    obtain ⟨v, rfl, q⟩ := r.one
    cases e : seqD x s with
    | none => rw [e] at w; exact w.elim
    | some ds =>
      rw [e] at w
      have w' : (match bls ds with | some bs => R.ok (g bs) s | none => .bad).wp _ := w
      cases e2 : bls ds with
      | none => rw [e2] at w'; exact w'.elim
      | some bs =>
        rw [e2] at w'
        obtain ⟨p, ys, rfl, h1, z, q1⟩ := seqD_ok hr q e
        rw [bls_eq e2] at q1
        rw [q1.bls] at h1
        exact ⟨p, bs, rfl, h1, w' ρ H _ (.refl _ _) hr (hg ξ ρ H bs)⟩
  · exact w.elim
theorem do_ints {g : List Int → D} {gv : List Int → V} (hg : ∀ ξ ρ H bs, Rp (X.kx ξ) ρ H (gv bs) (g bs)) : DoN X (opInts g) (fun vs H Q => ∃ (a : Addr) (bs : List Int), vs = [V.ref a] ∧ SqL X.K H a (bs.map V.int) ∧ Q (gv bs) H) := by
  intro xs s ξ ρ H vs Q hr r w
  unfold opInts at w
  split at w
  · rename_i x
    obtain ⟨v, rfl, q⟩ := r.one
    cases e : seqD x s with
    | none => rw [e] at w; exact w.elim
    | some ds =>
      rw [e] at w
      have w' : (match intsD ds with | some bs => R.ok (g bs) s | none => .bad).wp _ := w
      cases e2 : intsD ds with
      | none => rw [e2] at w'; exact w'.elim
      | some bs =>
        rw [e2] at w'
        obtain ⟨p, ys, rfl, h1, z, q1⟩ := seqD_ok hr q e
        rw [intsD_eq e2] at q1
        rw [q1.ints] at h1
        exact ⟨p, bs, rfl, h1, w' ρ H _ (.refl _ _) hr (hg ξ ρ H bs)⟩
  · exact w.elim
/-- tuple(x), list(x) -/
def opTupOf : Op1 := fun x s => match x with
  | .tup ds => .ok (.tup ds) s
  | x => match seqD x s with
    | some ds => .ok (.tup ds) s
    | none => .bad
def opLstOf (m : Bool) : Op1 := fun x s => match x with
  | .tup ds => newL m ds s
  | x => match seqD x s with
    | some ds => newL m ds s
    | none => .bad
def rTupOf (K : PySem.W.Frag) : List V → Hp → VK → Prop := fun xs H Q => ∃ p ys, xs = [.ref p] ∧ ((SqL K H p ys ∧ ∀ l, H l = none → Q (.ref l) (upd H l (.tup ys))) ∨ (SqT K H p ys ∧ Q (.ref p) H))
def rLstOf (K : PySem.W.Frag) : List V → Hp → VK → Prop := fun xs H Q => ∃ p ys, xs = [.ref p] ∧ (SqL K H p ys ∨ SqT K H p ys) ∧ ∀ l, H l = none → Q (.ref l) (upd H l (.lst ys))
theorem do_tupOf : Do1 X opTupOf (fun v H Q => rTupOf X.K [v] H Q) := by
  intro x s ξ ρ H v Q hr r1 w
  have lists : (match seqD x s with
    | some ds => R.ok (D.tup ds) s
    | none => .bad).wp (fun d s' => ∀ ρ' H' v', Xt ρ H ρ' H' → Hr (X.kx ξ) ρ' H' s' → Rp (X.kx ξ) ρ' H' v' d → Q v' H') → rTupOf X.K [v] H Q := by
    intro w
    cases e : seqD x s with
    | none => rw [e] at w; exact w.elim
    | some ds =>
      rw [e] at w
      obtain ⟨p, ys, rfl, h1, z, q⟩ := seqD_ok hr r1 e
      exact ⟨p, ys, rfl, .inl ⟨h1, fun l hl => newT_ok hr hl z q w⟩⟩
  cases r1 with
  | tup f z q => exact ⟨_, _, rfl, .inr ⟨f.sq, w ρ H _ (.refl _ _) hr (.tup f z q)⟩⟩
  | _ => exact lists w
theorem do_lstOf (m : Bool) : Do1 X (opLstOf m) (fun v H Q => rLstOf X.K [v] H Q) := by
  intro x s ξ ρ H v Q hr r1 w
  have lists : (match seqD x s with
    | some ds => newL m ds s
    | none => .bad).wp (fun d s' => ∀ ρ' H' v', Xt ρ H ρ' H' → Hr (X.kx ξ) ρ' H' s' → Rp (X.kx ξ) ρ' H' v' d → Q v' H') → rLstOf X.K [v] H Q := by
    intro w
    cases e : seqD x s with
    | none => rw [e] at w; exact w.elim
    | some ds =>
      rw [e] at w
      obtain ⟨p, ys, rfl, h1, z, q⟩ := seqD_ok hr r1 e
      exact ⟨p, ys, rfl, .inl h1, fun l hl => newL_ok hr hl z q w⟩
  cases r1 with
  | tup f z q => exact ⟨_, _, rfl, .inr f.sq, fun l hl => newL_ok hr hl z q w⟩
  | _ => exact lists w
/-- str(n) -/
def opStr : List D → Sto → R D := fun xs s => match xs with
  | [.int i] => if i.natAbs.log2 < 1920 then .ok (.str (toString i)) s else .bad
  | _ => .bad
theorem do_str : DoN X opStr (fun xs H Q => ∃ i, xs = [.int i] ∧ i.natAbs.log2 < 1920 ∧ Q (.str (toString i)) H) := by
  intro xs s ξ ρ H vs Q hr r w
  unfold opStr at w
  split at w
  · rename_i i
    obtain ⟨v, rfl, q⟩ := r.one
    cases q
    by_cases z : i.natAbs.log2 < 1920
    · rw [if_pos z] at w
      exact ⟨_, rfl, z, w ρ H _ (.refl _ _) hr (.str _)⟩
    · rw [if_neg z] at w; exact w.elim
  · exact w.elim
/-- repr(x) -/
def shownB (p : PyData) : Bool := p.showable && decide (p.shown.length ≤ sizeLine) && decide (p.depth ≤ 64) && !p.hasDict
def opRepr : List D → Sto → R D := fun xs s => match xs with
  | [x] => match toPd x s with
    | some p => if shownB p then .ok (.str p.shown) s else .bad
    | none => .bad
  | _ => .bad
def rRepr (K : PySem.W.Frag) : List V → Hp → VK → Prop := fun xs H Q => ∃ x p, xs = [x] ∧ Dp K H x p ∧ shownB p = true ∧ Q (.str p.shown) H
theorem call_repr (hg : Gq X.A) (hu : X.A.units + 66 < cLine) : CallR X (.builtin "repr") (rRepr X.K) := by
  intro pins s σ H xs us Q I r ⟨x, p, ex, hp, hs, q⟩
  subst ex
  obtain ⟨u, rfl, ru⟩ := vals1 r
  unfold shownB at hs
  simp only [Bool.and_eq_true, decide_eq_true_eq] at hs
  obtain ⟨⟨⟨h1, h2⟩, h3⟩, h4⟩ := hs
  cases hp with
  | non =>
    cases ru
    simp only [PyData.shown] at q
    exact PySem.P.repr_of_none ⟨.str _, H, I.tok _, ⟨_, rfl⟩, q⟩
  | bl b =>
    cases ru
    simp only [PyData.shown] at q
    exact PySem.P.repr_of_bool ⟨.str _, H, I.tok _, ⟨_, rfl⟩, q⟩
  | int i =>
    obtain ⟨t, rfl⟩ := ru
    simp only [PyData.shown] at q
    simp only [PyData.showable, decide_eq_true_eq] at h1
    exact PySem.P.repr_of_int h1 ⟨.str _, H, I.tok _, ⟨_, rfl⟩, q⟩
  | str y =>
    obtain ⟨t, rfl⟩ := ru
    simp only [PyData.shown] at q h2
    exact PySem.P.repr_of_str ⟨.str _, H, I.tok _, ⟨_, rfl⟩, q⟩ h2
  | lst hq ha =>
    obtain ⟨as, hr⟩ := Dp.reads I _ _ u (.lst hq ha) ru
    cases ru
    exact repr_of_reads' hr h1 (fun hd => by rw [hd] at h4; exact absurd h4 (by decide)) hg (by omega) (fun _ _ e => e) (fun h' u tk hk => ⟨.str _, H, I.kept hk, ⟨u, rfl⟩, q⟩) h2
  | tup hq ha =>
    obtain ⟨as, hr⟩ := Dp.reads I _ _ u (.tup hq ha) ru
    cases ru
    exact repr_of_reads' hr h1 (fun hd => by rw [hd] at h4; exact absurd h4 (by decide)) hg (by omega) (fun _ _ e => e) (fun h' u tk hk => ⟨.str _, H, I.kept hk, ⟨u, rfl⟩, q⟩) h2
theorem do_repr : DoN X opRepr (rRepr X.K) := by
  intro xs s ξ ρ H vs Q hr r w
  unfold opRepr at w
  split at w
  · rename_i x
    obtain ⟨v, rfl, q⟩ := r.one
    cases e : toPd x s with
    | none => rw [e] at w; exact w.elim
    | some p =>
      rw [e] at w
      have w' : (if shownB p = true then R.ok (D.str p.shown) s else .bad).wp _ := w
      by_cases z : shownB p = true
      · rw [if_pos z] at w'
        exact ⟨v, p, rfl, toPd_ok hr q e, z, w' ρ H _ (.refl _ _) hr (.str _)⟩
      · rw [if_neg z] at w'; exact w'.elim
  · exact w.elim
end
end Rf
set_option maxHeartbeats 4000000
namespace Rf
open PySem PySem.Spec L2
open PyProof.Rows hiding St
/-! ## calls of defs -/
def mCall (F : Fn) (id : Nat) (arr : List Src) (ma : MA) : ME := fun env st => (ma env st).bd fun ds s => F id (arr.map (Src.get ds)) s
def mCallK (F : Fn) (id : Nat) (arr : List Src) (ma mk : MA) : ME := fun env st => (ma env st).bd fun ds s => (mk env s).bd fun ks s' => F id (arr.map (Src.get (ds ++ ks))) s'
section
variable {X : Cx} {K : Kx} {ρ : List Addr} {H : Hp}
theorem Vals.appd {vs ws : List V} {us zs : List Value} (a : Vals vs us) (b : Vals ws zs) : Vals (vs ++ ws) (us ++ zs) := a.append b
theorem Rps.getD {vs : List V} {ds : List D} {us : List Value} {i : Nat} {z : Value} (r : Rps K ρ H vs ds) (rv : Vals vs us) (h : us[i]? = some z) : ∃ v, RelV v z ∧ Rp K ρ H v (ds.getD i .non) := by
  have hl : i < us.length := (List.getElem?_eq_some_iff.mp h).1
  have h1 : i < vs.length := by rw [rv.length]; exact hl
  have h2 : i < ds.length := by rw [← r.length]; exact h1
  obtain ⟨v, e1, q⟩ := r.get (List.getElem?_eq_getElem h2)
  obtain ⟨z', e2, q2⟩ := rv.get e1
  rw [h] at e2
  cases e2
  refine ⟨v, q2, ?_⟩
  rw [List.getD_eq_getElem?_getD, List.getElem?_eq_getElem h2]
  exact q
theorem arranged {vs : List V} {ds : List D} {us : List Value} (r : Rps K ρ H vs ds) (rv : Vals vs us) : ∀ {arr : List Src} {zs : List Value},
    Paired (fun (a : Src) (z : Value) => match a with | .at i => us[i]? = some z | .int i => ∃ t, z = .int i t) arr zs → ∃ ws, Vals ws zs ∧ Rps K ρ H ws (arr.map (Src.get ds)) ∧ ws.length = arr.length
  | _, _, .nil => ⟨[], .nil, .nil, rfl⟩
  | .at i :: arr, z :: zs, .cons h t => by
    obtain ⟨ws, h1, h2, h3⟩ := arranged r rv t
    obtain ⟨v, q1, q2⟩ := r.getD rv h
    exact ⟨v :: ws, .cons q1 h1, .cons q2 h2, by rw [List.length_cons, List.length_cons, h3]⟩
  | .int i :: arr, z :: zs, .cons ⟨t', e⟩ t => by
    obtain ⟨ws, h1, h2, h3⟩ := arranged r rv t
    subst e
    exact ⟨.int i :: ws, .cons ⟨t', rfl⟩ h1, .cons (.int i) h2, by rw [List.length_cons, List.length_cons, h3]⟩
end
section
variable {X : Cx} {F : Fn} {fi : Fi} {p pos : Pos} {es : List Expr} {ma mk : MA}
/-- what the arguments must come to, for the call -/
def CallQ (X : Cx) (F : Fn) (fi : Fi) (ξ ρ : List Addr) (H : Hp) (Q : VK) (vs : List V) (H1 : Hp) : Prop := ∃ ds ρ1 st1, Xt ρ H ρ1 H1 ∧ Hr (X.kx ξ) ρ1 H1 st1 ∧ Rps (X.kx ξ) ρ1 H1 vs ds ∧
  (F fi.id (fi.arr.map (Src.get ds)) st1).wp fun d st' => ∀ ρ' H' v, Xt ρ H ρ' H' → Hr (X.kx ξ) ρ' H' st' → Rp (X.kx ξ) ρ' H' v d → Q v H'
theorem call_fin {f : Addr} {fd : FuncData} {ps : List Str} {k : Nat} (hq : Gq X.A) (hr : Room k X.A) (Fo : Fg X.prog X.w X.K X.mg X.base k f fd ps (spF X.K F fi.id ps.length)) (hpl : ps.length = fi.arr.length)
    (hb : ∀ (s : Shared) (us ws : List Value), X.K.In s.heap → us.length = fi.np → ws.length = fi.kw.length → ∃ zs, BindsTo s fd ⟨us, fi.kw.zip ws⟩ (ps.zip zs) ∧
      Paired (fun (a : Src) (z : Value) => match a with | .at i => (us ++ ws)[i]? = some z | .int i => ∃ t, z = .int i t) fi.arr zs)
    {pins : List (Addr × Obj)} {σ : L2.St} {ξ ρ : List Addr} {H H1 : Hp} {Q : VK} {s1 : Shared} {us us2 : List Value} {vs vs2 : List V} (I1 : Inv X pins σ H1 s1) (rv : Vals vs us) (rv2 : Vals vs2 us2) (hl : us.length = fi.np) (hl2 : us2.length = fi.kw.length)
    (c : CallQ X F fi ξ ρ H Q (vs ++ vs2) H1) : wpAny (model X.prog X.w) X.A (call (.ref f) us (fi.kw.zip us2)) (EP X pins σ Q) X.xe s1 := by
  obtain ⟨ds, ρ1, st1, x1, h1, r1, w1⟩ := c
  obtain ⟨zs, hbd, hz⟩ := hb s1 us us2 I1.kIn hl hl2
  obtain ⟨ws, q1, q2, q3⟩ := arranged r1 (rv.append rv2) hz
  exact Fo.go hq hr hbd I1 q1 ⟨by rw [q3, hpl], ξ, ρ1, st1, _, q2, h1, R.wp_mono w1 fun d st' k ρ' H' v x2 => k ρ' H' v (x1.trans x2)⟩
theorem se_call {e : Expr} (W : Wf X F fi) (hq : Gq X.A) (hg : Gl X fi.nm) (hdb : (fi.nm == ("__debug__" : Str)) = false) (hk : fi.kw = []) (hn : (e :: es).length = fi.np) (hp : (e :: es).all plainArg = true) (ha : SA X (e :: es) ma) :
    SE X (.Call (.Name fi.nm p) (e :: es) [] pos) (mCall F fi.id fi.arr ma) := by
  obtain ⟨f, fd, ps, k, hm, hkp, hr, Fo, hpl, hb⟩ := W.ex
  rw [List.all_cons, Bool.and_eq_true] at hp
  intro ξ ρ H σ env st Q e0 hst w pins s I
  refine wpAny_Call_Name_kw (ld_glob I hg hm ?_ hdb)
  refine PySem.W.callWith_K (h₀ := X.base) I.ok.mod.kin hkp (thn (ha ξ ρ H σ env st (fun vs H1 => vs.length = fi.np ∧ CallQ X F fi ξ ρ H Q vs H1) e0 hst (R.wp_mono (R.wp_bd.mp w) fun ds st1 w1 ρ1 H1 vs x1 h1 r1 hl => ⟨hl.trans hn, ds, ρ1, st1, x1, h1, r1, w1⟩) pos pins s I) fun us s1 ⟨vs, H1, I1, r, hl, q⟩ => ⟨I1.kIn, ?_⟩) (star_cons hp.1) (star_any hp.2)
  have q' : CallQ X F fi ξ ρ H Q (vs ++ []) H1 := by rw [List.append_nil]; exact q
  have z := call_fin hq hr Fo hpl hb I1 r .nil (by rw [← r.length, hl]) (by rw [hk]; rfl) q'
  rw [hk] at z
  exact z
theorem se_call0 (W : Wf X F fi) (hq : Gq X.A) (hg : Gl X fi.nm) (hdb : (fi.nm == ("__debug__" : Str)) = false) (hk : fi.kw = []) (hn : fi.np = 0) :
    SE X (.Call (.Name fi.nm p) [] [] pos) (mCall F fi.id fi.arr mNil) := by
  obtain ⟨f, fd, ps, k, hm, hkp, hr, Fo, hpl, hb⟩ := W.ex
  intro ξ ρ H σ env st Q e0 hst w pins s I
  refine wpAny_Call_Name_kw (ld_glob I hg hm ?_ hdb)
  have w' : (F fi.id (fi.arr.map (Src.get [])) st).wp _ := w
  have z := call_fin hq hr Fo hpl hb I .nil .nil (by rw [hn]; rfl) (by rw [hk]; rfl) (ξ := ξ) (ρ := ρ) (H := H) (Q := Q) ⟨[], ρ, st, .refl _ _, hst, .nil, R.wp_mono w' fun d st' k => k⟩
  rw [hk] at z
  exact PySem.W.callWith_K0 I.kIn hkp z
/-! ### arguments by name -/
def RK (X : Cx) (kws : List Keyword) : TA := fun σ H Q => ∀ (pos : Pos) (pins : List (Addr × Obj)) (s : Shared), Inv X pins σ H s → wpAny (model X.prog X.w) X.A (evalAll ((backToKw pos (keywordEach kws X.env)).map (·.2))) (AP X pins σ Q) X.xe s
theorem pk_rk {X : Cx} {kws : List Keyword} : PK X kws (RK X kws) := ⟨fun pos pins s _ _ _ I h => h pos pins s I⟩
theorem _root_.L2.PK.rk {X : Cx} {kws : List Keyword} {t : TA} (h : PK X kws t) {σ : L2.St} {H : Hp} {Q : List V → Hp → Prop} (q : t σ H Q) : RK X kws σ H Q := fun pos pins s I => h.run pos pins s σ H Q I q
def SK (X : Cx) (kws : List Keyword) (m : MA) : Prop := ∀ (ξ ρ : List Addr) (H : Hp) (σ : L2.St) (env : Ev) (st : Sto) (Q : List V → Hp → Prop), Er (X.kx ξ) ρ H σ env → Hr (X.kx ξ) ρ H st →
  (m env st).wp (fun ds st' => ∀ ρ' H' vs, Xt ρ H ρ' H' → Hr (X.kx ξ) ρ' H' st' → Rps (X.kx ξ) ρ' H' vs ds → vs.length = kws.length → Q vs H') → RK X kws σ H Q
theorem sk_nil : SK X [] mNil := fun ξ ρ H σ env st Q _ hr w => pk_nil.rk (w ρ H [] (.refl _ _) hr .nil rfl)
theorem sk_cons {n : Option Str} {e : Expr} {kp : Pos} {kws : List Keyword} {m : ME} {mr : MA} (ha : SE X e m) (hr : SK X kws mr) : SK X (⟨n, e, kp⟩ :: kws) (mCons m mr) := fun ξ ρ H σ env st Q e0 h w => by
  refine (pk_cons pe_re pk_rk).rk ?_
  refine ha ξ ρ H σ env st _ e0 h (R.wp_mono (R.wp_bd.mp w) fun x s w1 ρ1 H1 v x1 h1 r1 => ?_)
  refine hr ξ ρ1 H1 σ env s _ (e0.xt x1) h1 (R.wp_mono (R.wp_bd.mp w1) fun xs s2 w2 ρ2 H2 vs x2 h2 r2 hl => ?_)
  exact w2 ρ2 H2 (v :: vs) (x1.trans x2) h2 (.cons (r1.xt x2) r2) (by rw [List.length_cons, List.length_cons, hl])
def kwNames (kws : List Keyword) : List Str := kws.filterMap fun k => k.arg
theorem kw_all {env : Env} : ∀ {kws : List Keyword}, (kws.all fun k => k.arg.isSome) = true → (backToKw pos (keywordEach kws env)).all (·.1.isSome) = true ∧ (backToKw pos (keywordEach kws env)).any (·.1.isNone) = false
  | [], _ => ⟨rfl, rfl⟩
  | ⟨n, e, kp⟩ :: kws, h => by
    rw [List.all_cons, Bool.and_eq_true] at h
    obtain ⟨h1, h2⟩ := kw_all (kws := kws) (env := env) h.2
    cases n with
    | none => cases h.1
    | some n => exact ⟨h1, h2⟩
theorem kw_names {env : Env} : ∀ {kws : List Keyword}, (backToKw pos (keywordEach kws env)).filterMap (·.1) = kwNames kws
  | [] => rfl
  | ⟨n, e, kp⟩ :: kws => by
    have ih := kw_names (kws := kws) (env := env)
    cases n with
    | none => exact ih
    | some n =>
      show n :: (backToKw pos (keywordEach kws env)).filterMap (·.1) = n :: kwNames kws
      rw [ih]
theorem se_callK {e : Expr} {kws : List Keyword} (W : Wf X F fi) (hq : Gq X.A) (hg : Gl X fi.nm) (hdb : (fi.nm == ("__debug__" : Str)) = false) (hk : kwNames kws = fi.kw) (hks : (kws.all fun k => k.arg.isSome) = true) (hn : (e :: es).length = fi.np) (hp : (e :: es).all plainArg = true)
    (hkl : kws.length = fi.kw.length) (ha : SA X (e :: es) ma) (hkw : SK X kws mk) : SE X (.Call (.Name fi.nm p) (e :: es) kws pos) (mCallK F fi.id fi.arr ma mk) := by
  obtain ⟨f, fd, ps, k, hm, hkp, hr, Fo, hpl, hb⟩ := W.ex
  have hp' := hp
  rw [List.all_cons, Bool.and_eq_true] at hp
  intro ξ ρ H σ env st Q e0 hst w pins s I
  refine wpAny_Call_Name_kw (ld_glob I hg hm ?_ hdb)
  refine PySem.W.callWith_KW (h₀ := X.base) I.ok.mod.kin hkp (kw_all hks).1 (thn (ha ξ ρ H σ env st (fun vs H1 => vs.length = fi.np ∧ RK X kws σ H1 fun vs2 H2 => vs2.length = fi.kw.length ∧ CallQ X F fi ξ ρ H Q (vs ++ vs2) H2) e0 hst
    (R.wp_mono (R.wp_bd.mp w) fun ds st1 w1 ρ1 H1 vs x1 h1 r1 hl => ⟨hl.trans hn, hkw ξ ρ1 H1 σ env st1 _ (e0.xt x1) h1 (R.wp_mono (R.wp_bd.mp w1) fun ks st2 w2 ρ2 H2 vs2 x2 h2 r2 hl2 => ⟨hl2.trans hkl, ds ++ ks, ρ2, st2, x1.trans x2, h2, (Rps.xt x2 _ _ r1).app r2,
      R.wp_mono w2 fun d st' k ρ' H' v x3 => k ρ' H' v x3⟩)⟩) pos pins s I) fun us s1 ⟨vs, H1, I1, r, hl, q⟩ => thn (q pos pins s1 I1) fun ws s2 ⟨vs2, H2, I2, r2, hl2, q2⟩ => ⟨I2.kIn, ?_⟩) (by rw [star_any hp', (kw_all hks).2]; rfl) (star_cons hp.1)
  rw [kw_names, hk]
  exact call_fin hq hr Fo hpl hb I2 r r2 (show us.length = fi.np by rw [← r.length, hl]) (by rw [← r2.length, hl2]) q2
theorem se_callK0 {kws : List Keyword} (W : Wf X F fi) (hq : Gq X.A) (hg : Gl X fi.nm) (hdb : (fi.nm == ("__debug__" : Str)) = false) (hk : kwNames kws = fi.kw) (hks : (kws.all fun k => k.arg.isSome) = true) (hn : fi.np = 0)
    (hkl : kws.length = fi.kw.length) (hkw : SK X kws mk) : SE X (.Call (.Name fi.nm p) [] kws pos) (mCallK F fi.id fi.arr mNil mk) := by
  obtain ⟨f, fd, ps, k, hm, hkp, hr, Fo, hpl, hb⟩ := W.ex
  intro ξ ρ H σ env st Q e0 hst w pins s I
  refine wpAny_Call_Name_kw (ld_glob I hg hm ?_ hdb)
  have w' : (mk env st).wp fun ks st' => (F fi.id (fi.arr.map (Src.get ([] ++ ks))) st').wp fun d st' => ∀ ρ' H' v, Xt ρ H ρ' H' → Hr (X.kx ξ) ρ' H' st' → Rp (X.kx ξ) ρ' H' v d → Q v H' := R.wp_bd.mp w
  refine PySem.W.callWith_KW0 (h₀ := X.base) I.ok.mod.kin hkp (kw_all hks).1 (thn (hkw ξ ρ H σ env st (fun vs2 H2 => vs2.length = fi.kw.length ∧ CallQ X F fi ξ ρ H Q ([] ++ vs2) H2) e0 hst
    (R.wp_mono w' fun ks st2 w2 ρ2 H2 vs2 x2 h2 r2 hl2 => ⟨hl2.trans hkl, ks, ρ2, st2, x2, h2, r2, w2⟩) pos pins s I) fun ws s2 ⟨vs2, H2, I2, r2, hl2, q2⟩ => ⟨I2.kIn, ?_⟩) (by rw [(kw_all hks).2]; rfl)
  rw [kw_names, hk]
  exact call_fin hq hr Fo hpl hb I2 .nil r2 (by rw [hn]; rfl) (by rw [← r2.length, hl2]) q2
end
end Rf
set_option maxHeartbeats 4000000
namespace Rf
open PySem PySem.Spec L2
open PyProof.Rows hiding St
/-! ## what a loop walks -/
/-- more places are kept apart, all of them new -/
structure Mre (K K' : Kx) (H : Hp) : Prop where
  k : K'.K = K.K
  s : ∀ a, a ∈ K'.ex → a ∈ K.ex ∨ H a = none
section
variable {K K' : Kx} {ρ ρ' : List Addr} {H H' : Hp}
theorem Mre.fr (m : Mre K K' H) {a : Addr} {u : HO} (f : Fr1 K ρ a) (h : Rd H a u) : Fr1 K' ρ a := ⟨f.1, fun q => by
  rcases m.s a q with z | z
  · exact f.2 z
  · rcases h with h | ⟨o, h⟩ <;> rw [z] at h <;> cases h⟩
theorem Mre.ft (m : Mre K K' H) {a : Addr} {xs : List V} (h : FT K ρ H a xs) : FT K' ρ H a xs := h.imp (fun z => ⟨m.fr z.1 z.2, z.2⟩) fun z => by rw [m.k]; exact z
theorem Mre.fl (m : Mre K K' H) {a : Addr} {xs : List V} (h : FL K ρ H a xs) : FL K' ρ H a xs := h.imp (fun z => ⟨m.fr z.1 z.2, z.2⟩) fun z => by rw [m.k]; exact z
mutual
theorem Rp.more (m : Mre K K' H) : ∀ (d : D) (v : V), Rp K ρ H v d → Rp K' ρ H v d
  | _, _, .non => .non
  | _, _, .bl b => .bl b
  | _, _, .int i => .int i
  | _, _, .str y => .str y
  | .tup ds, _, .tup h z r => .tup (m.ft h) z (Rps.more m ds _ r)
  | .lst ds, _, .lst n h z r => .lst (m.fr n (.inl h)) h z (Rps.more m ds _ r)
  | .ro ds, _, .ro h z r => .ro (m.fl h) z (Rps.more m ds _ r)
  | _, _, .ref h => .ref h
  | _, _, .dct n h => .dct (m.fr n (.inl h)) h
theorem Rps.more (m : Mre K K' H) : ∀ (ds : List D) (vs : List V), Rps K ρ H vs ds → Rps K' ρ H vs ds
  | [], _, .nil => .nil
  | d :: ds, _, .cons h r => .cons (Rp.more m d _ h) (Rps.more m ds _ r)
end
theorem Er.more (m : Mre K K' H) {σ : L2.St} {env : Ev} (h : Er K ρ H σ env) : Er K' ρ H σ env := ⟨h.len, fun i d e => let ⟨v, h1, h2⟩ := h.at_ i d e; ⟨v, h1, Rp.more m d v h2⟩⟩
theorem Er.less (l : Lss K K') {σ : L2.St} {env : Ev} (h : Er K ρ H σ env) : Er K' ρ H σ env := ⟨h.len, fun i d e => let ⟨v, h1, h2⟩ := h.at_ i d e; ⟨v, h1, Rp.less l d v h2⟩⟩
theorem Hr.less (l : Lss K K') {st : Sto} (h : Hr K ρ H st) : Hr K' ρ H st := ⟨h.len, h.nd, fun a q => h.exl a (l.s a q), fun a q => h.exd a (l.s a q), fun n a o e1 e2 => by
  have q := h.ob n a o e1 e2
  cases o with
  | lst ds => obtain ⟨xs, a1, a2, a3⟩ := q; exact ⟨xs, a1, a2, Rps.less l _ _ a3⟩
  | dct => exact q
  | ins => exact q⟩
end
/-- the list that a loop walks still stands in the store as it was -/
inductive Gk where
  | one (n : Nat)
  | many (l : List (Nat × List D))
def gst (o : Option Gk) (ds : List D) (st : Sto) : Prop := match o with
  | none => True
  | some (.one n) => st[n]? = some (.lst ds)
  | some (.many l) => ∀ p ∈ l, st[p.1]? = some (.lst p.2)
structure Itok (K : Kx) (ρ : List Addr) (H : Hp) (J : It) (ds : List D) (o : Option Gk) : Prop where
  len : ds.length ≤ sizeLine
  go : ∀ (K' : Kx) (ρ2 : List Addr) (H2 : Hp) (st2 : Sto), Xt ρ H ρ2 H2 → Mre K K' H → Hr K' ρ2 H2 st2 → gst o ds st2 → ∀ (i : Nat) (d : D), ds[i]? = some d → J.go i H2 ∧ ∀ x H3, J.yld i H2 x H3 → Same H2 H3 ∧ Rp K' ρ2 H3 x d
  stop : ∀ (K' : Kx) (ρ2 : List Addr) (H2 : Hp) (st2 : Sto), Xt ρ H ρ2 H2 → Mre K K' H → Hr K' ρ2 H2 st2 → gst o ds st2 → ∀ i : Nat, i = ds.length → J.stop i H2
abbrev MI := Ev → Sto → R (List D × Option Gk)
def SI (X : Cx) (tg it : Expr) (m : MI) : Prop := ∀ (ξ ρ : List Addr) (H : Hp) (σ : L2.St) (env : Ev) (st : Sto) (Z : It → Hp → Prop), Er (X.kx ξ) ρ H σ env → Hr (X.kx ξ) ρ H st →
  (m env st).wp (fun p st' => ∀ ρ' H' J, Xt ρ H ρ' H' → Hr (X.kx ξ) ρ' H' st' → Itok (X.kx ξ) ρ' H' J p.1 p.2 → Z J H') → RI X tg it σ H Z
/-! ### a value walked -/
def strItems (x : Str) : List D := x.cps.toList.map fun c => .str ⟨#[c]⟩
def itemsD (x : D) (s : Sto) : Option (List D × Option Gk) := match x with
  | .tup ds => some (ds, none)
  | .lst ds => some (ds, none)
  | .ro ds => some (ds, none)
  | .str z => if z.length ≤ sizeLine then some (strItems z, none) else none
  | .ref n => match s[n]? with
    | some (.lst ds) => some (ds, some (.one n))
    | _ => none
  | _ => none
def mIt (a : ME) : MI := fun env st => (a env st).bd fun x s => match itemsD x s with
  | some p => .ok p s
  | none => .bad
/-- by values -/
def PV (X : Cx) (tg : Expr) (w : V → Hp → (It → Hp → Prop) → Prop) : Prop := ∀ (pins : List (Addr × Obj)) (s : Shared) (σ : L2.St) (H : Hp) (v : V) (u : Value) (Z : It → Hp → Prop), Inv X pins σ H s → RelV v u → w v H Z → wpAny (model X.prog X.w) X.A (pyIter u) (PIE X pins σ tg Z) X.xe s
section
variable {X : Cx} {tg : Expr}
theorem PV.or {w w' : V → Hp → (It → Hp → Prop) → Prop} (h : PV X tg w) (h' : PV X tg w') : PV X tg (fun v H Z => w v H Z ∨ w' v H Z) := fun pins s σ H v u Z I r q => q.elim (h pins s σ H v u Z I r) (h' pins s σ H v u Z I r)
theorem PV.pi {e : Expr} {t : TE} {w : V → Hp → (It → Hp → Prop) → Prop} (he : PE X e t) (h : PV X tg w) : PI X tg e (fun σ H Z => t σ H fun v H1 => w v H1 Z) := ⟨fun pins s σ H Z I q => thn (he.run pins s σ H _ I q) fun u s1 ⟨v, H1, I1, r, q1⟩ => h pins s1 σ H1 v u Z I1 r q1⟩
theorem pv_list : PV X tg (fun v H Z => ∃ a, v = .ref a ∧ (∃ xs, SqL X.K H a xs) ∧ Z (Itl X.K a) H) := by
  rintro pins s σ H v u Z I r ⟨a, rfl, ⟨xs, hq⟩, q⟩
  cases r
  obtain ⟨its, _, p, _⟩ := I.list hq
  exact wpAny_pyIter_list p.isList (pi_one (tk := s.toks) I _ (turn_list a _) ⟨_, Heap.get?_push_size _ rfl, rfl, rfl⟩ q)
theorem pv_tup : PV X tg (fun v H Z => ∃ a, v = .ref a ∧ (∃ xs, SqT X.K H a xs) ∧ Z (Itt X.K a) H) := by
  rintro pins s σ H v u Z I r ⟨a, rfl, ⟨xs, hq⟩, q⟩
  cases r
  obtain ⟨its, _, p, _⟩ := I.tuple hq
  exact wpAny_pyIter_tuple (show s.heap.IsTuple a its.toArray from p) (pi_one (tk := s.toks) I _ (turn_tuple a _) ⟨_, Heap.get?_push_size _ rfl, rfl, rfl⟩ q)
theorem pv_str : PV X tg (fun v H Z => ∃ x, v = .str x ∧ Z (Its x) H) := by
  rintro pins s σ H v u Z I r ⟨x, rfl, q⟩
  obtain ⟨t, rfl⟩ := r
  cases ha : x.cps.all (· < 128)
  · exact wpAny_pyIter_wide ha (pi_one (tk := s.toks) I _ (turn_str _ x t "str_iterator" (.inr rfl)) ⟨_, Heap.get?_push_size _ rfl, rfl, rfl⟩ q)
  · exact wpAny_pyIter_ascii ha (pi_one (tk := s.toks) I _ (turn_str _ x t "str_ascii_iterator" (.inl rfl)) ⟨_, Heap.get?_push_size _ rfl, rfl, rfl⟩ q)
end
/-- a list's walk, where it lies (frozen, or in the store) -/
theorem itok_list {K : Kx} {ρ : List Addr} {H : Hp} {a : Addr} {ds : List D} {o : Option Gk} (h : ∀ (K' : Kx) (ρ2 : List Addr) (H2 : Hp) (st2 : Sto), Xt ρ H ρ2 H2 → Mre K K' H → Hr K' ρ2 H2 st2 → gst o ds st2 → ∃ xs, SqL K.K H2 a xs ∧ Rps K' ρ2 H2 xs ds) (hl : ds.length ≤ sizeLine) : Itok K ρ H (Itl K.K a) ds o where
  len := hl
  go := fun K' ρ2 H2 st2 x m hr g i d hd => by
    obtain ⟨xs, hq, r⟩ := h K' ρ2 H2 st2 x m hr g
    obtain ⟨v, hv, rv⟩ := r.get hd
    refine ⟨⟨xs, v, hq, hv⟩, ?_⟩
    rintro y H3 ⟨rfl, hy⟩
    have e := hy xs hq
    rw [hv] at e
    cases e
    exact ⟨Same.refl _, rv⟩
  stop := fun K' ρ2 H2 st2 x m hr g i hi => by
    obtain ⟨xs, hq, r⟩ := h K' ρ2 H2 st2 x m hr g
    exact ⟨xs, hq, by rw [r.length]; exact Nat.le_of_eq hi.symm⟩
theorem itok_tup {K : Kx} {ρ : List Addr} {H : Hp} {a : Addr} {xs : List V} {ds : List D} (f : FT K ρ H a xs) (r : Rps K ρ H xs ds) (hl : xs.length ≤ sizeLine) : Itok K ρ H (Itt K.K a) ds none where
  len := by rw [← r.length]; exact hl
  go := fun K' ρ2 H2 st2 x m hr g i d hd => by
    have f2 : SqT K.K H2 a xs := (f.xt x).sq
    have r2 : Rps K' ρ2 H2 xs ds := Rps.xt x _ _ (Rps.more m _ _ r)
    obtain ⟨v, hv, rv⟩ := r2.get hd
    refine ⟨⟨xs, v, f2, hv⟩, ?_⟩
    rintro y H3 ⟨rfl, hy⟩
    have e := hy xs f2
    rw [hv] at e
    cases e
    exact ⟨Same.refl _, rv⟩
  stop := fun K' ρ2 H2 st2 x m hr g i hi => ⟨xs, (f.xt x).sq, by rw [r.length]; exact Nat.le_of_eq hi.symm⟩
theorem strItems_len (x : Str) : (strItems x).length = x.cps.size := by simp [strItems]
theorem itok_str {K : Kx} {ρ : List Addr} {H : Hp} (x : Str) (hl : x.length ≤ sizeLine) : Itok K ρ H (Its x) (strItems x) none where
  len := by rw [strItems_len]; exact hl
  go := fun K' ρ2 H2 st2 _ m hr g i d hd => by
    have hl : i < x.cps.size := by
      have := (List.getElem?_eq_some_iff.mp hd).1
      rw [strItems_len] at this
      exact this
    refine ⟨hl, ?_⟩
    rintro y H3 ⟨rfl, c, hc, rfl⟩
    unfold strItems at hd
    rw [List.getElem?_map] at hd
    have e : x.cps.toList[i]? = some c := by simpa using hc
    rw [e] at hd
    cases hd
    exact ⟨Same.refl _, .str _⟩
  stop := fun K' ρ2 H2 st2 _ m hr g i hi => by rw [strItems_len] at hi; exact Nat.le_of_eq hi.symm
/-- a value, whatever it is, that may be walked -/
def rWalk (K : PySem.W.Frag) : V → Hp → (It → Hp → Prop) → Prop := fun v H Z => (∃ a, v = .ref a ∧ (∃ xs, SqL K H a xs) ∧ Z (Itl K a) H) ∨ ((∃ a, v = .ref a ∧ (∃ xs, SqT K H a xs) ∧ Z (Itt K a) H) ∨ ∃ x, v = .str x ∧ Z (Its x) H)
theorem pv_walk {X : Cx} {tg : Expr} : PV X tg (rWalk X.K) := PV.or pv_list (PV.or pv_tup pv_str)
theorem itemsD_ok {K : Kx} {ρ : List Addr} {H : Hp} {v : V} {x : D} {s : Sto} {p : List D × Option Gk} {Z : It → Hp → Prop} (hr : Hr K ρ H s) (r : Rp K ρ H v x) (h : itemsD x s = some p) (k : ∀ J, Itok K ρ H J p.1 p.2 → Z J H) : rWalk K.K v H Z := by
  cases r with
  | tup f z q => cases h; exact .inr (.inl ⟨_, rfl, ⟨_, f.sq⟩, k _ (itok_tup f q z)⟩)
  | lst n f z q =>
    cases h
    exact .inl ⟨_, rfl, ⟨_, SqL.of f⟩, k _ (itok_list (fun K' ρ2 H2 st2 x m _ _ => ⟨_, SqL.of (x.keep _ _ n.1 f), Rps.xt x _ _ (Rps.more m _ _ q)⟩) (by rw [← q.length]; exact z))⟩
  | ro f z q =>
    cases h
    exact .inl ⟨_, rfl, ⟨_, f.sq⟩, k _ (itok_list (fun K' ρ2 H2 st2 x m _ _ => ⟨_, (f.xt x).sq, Rps.xt x _ _ (Rps.more m _ _ q)⟩) (by rw [← q.length]; exact z))⟩
  | str y =>
    have h' : (if y.length ≤ sizeLine then some (strItems y, (none : Option Gk)) else none) = some p := h
    by_cases hz : y.length ≤ sizeLine
    · rw [if_pos hz] at h'
      cases h'
      exact .inr (.inr ⟨y, rfl, k _ (itok_str y hz)⟩)
    · rw [if_neg hz] at h'
      cases h'
  | ref hn =>
    rename_i a n
    have h' : (match s[n]? with | some (.lst ds) => some (ds, some (.one n)) | _ => none) = some p := h
    cases e : s[n]? with
    | none => rw [e] at h'; cases h'
    | some o =>
      rw [e] at h'
      cases o with
      | lst ds =>
        cases h'
        obtain ⟨xs, h1, h2, h3⟩ := hr.ob n a _ hn e
        refine .inl ⟨a, rfl, ⟨xs, SqL.of h1⟩, k _ (itok_list (fun K' ρ2 H2 st2 x m hr2 g => ?_) (by rw [← h3.length]; exact h2))⟩
        obtain ⟨ys, g1, g2, g3⟩ := hr2.ob n a _ (x.get hn) g
        exact ⟨ys, SqL.of g1, g3⟩
      | dct => cases h'
      | ins => cases h'
  | _ => cases h
theorem si_val {X : Cx} {tg e : Expr} {m : ME} (h : SE X e m) : SI X tg e (mIt m) := fun ξ ρ H σ env st Z e0 hr w => by
  refine (PV.pi pe_re pv_walk).ri (h ξ ρ H σ env st _ e0 hr (R.wp_mono (R.wp_bd.mp w) fun x s w1 ρ1 H1 v x1 h1 r1 => ?_))
  cases e : itemsD x s with
  | none => rw [e] at w1; exact w1.elim
  | some p =>
    rw [e] at w1
    exact itemsD_ok h1 r1 e fun J hJ => w1 ρ1 H1 J x1 h1 hJ
/-! ### range -/
def rgI (a b : Int) : List D := (List.range (b - a).toNat).map fun i => .int (a + (i : Nat))
theorem rgI_len (a b : Int) : (rgI a b).length = (b - a).toNat := by simp [rgI]
@[irreducible] def rgB (a b : Int) : Bool := decide (-(2 ^ 62) ≤ a) && decide (a < 2 ^ 62) && decide (-(2 ^ 62) ≤ b) && decide (b < 2 ^ 62) && decide ((b - a).toNat ≤ 16777216)
def mRg (ma : MA) : MI := fun env st => (ma env st).bd fun xs s => match xs with
  | [.int b] => if rgB 0 b then .ok (rgI 0 b, none) s else .bad
  | [.int a, .int b] => if rgB a b then .ok (rgI a b, none) s else .bad
  | _ => .bad
theorem itok_rg {K : Kx} {ρ : List Addr} {H : Hp} {a b : Int} {n : Nat} (hn : n = (b - a).toNat) (hl : (b - a).toNat ≤ 16777216) : Itok K ρ H (Itr a n) (rgI a b) none where
  len := by rw [rgI_len, sizeLine_eq]; exact hl
  go := fun K' ρ2 H2 st2 _ m hr g i d hd => by
    have hl : i < n := by
      have := (List.getElem?_eq_some_iff.mp hd).1
      rw [rgI_len] at this
      omega
    refine ⟨hl, ?_⟩
    rintro y H3 ⟨rfl, rfl⟩
    unfold rgI at hd
    rw [List.getElem?_map, List.getElem?_range (by omega)] at hd
    cases hd
    exact ⟨Same.refl _, .int _⟩
  stop := fun K' ρ2 H2 st2 _ m hr g i hi => by
    rw [rgI_len] at hi
    show n ≤ i
    omega
section
variable {X : Cx} {tg : Expr} {G : Gi} {F : Fn} {p pos : Pos} {ma : MA}
theorem rgB_ok {a b : Int} (h : rgB a b = true) : -(2 ^ 62) ≤ a ∧ a < 2 ^ 62 ∧ -(2 ^ 62) ≤ b ∧ b < 2 ^ 62 ∧ (b - a).toNat ≤ 16777216 := by
  unfold rgB at h
  simp only [Bool.and_eq_true, decide_eq_true_eq] at h
  exact ⟨h.1.1.1.1, h.1.1.1.2, h.1.1.2, h.1.2, h.2⟩
theorem si_rg1 {a : Expr} (hg : Gl X "range") (hm : X.mg "range" = none) (hp : plainArg a = true) (h : SA X [a] ma) : SI X tg (.Call (.Name "range" p) [a] [] pos) (mRg ma) := fun ξ ρ H σ env st Z e0 hr w => by
  refine (pi_range1 hg hm pa_ra (star_cons hp)).ri (h ξ ρ H σ env st _ e0 hr (R.wp_mono (R.wp_bd.mp w) fun xs s w1 ρ1 H1 vs x1 h1 r1 hl => ?_))
  split at w1
  · rename_i b
    obtain ⟨v, rfl, q⟩ := r1.one
    cases q
    by_cases z : rgB 0 b = true
    · rw [if_pos z] at w1
      have zz := rgB_ok z
      exact ⟨b, rfl, zz.2.2.1, zz.2.2.2.1, w1 ρ1 H1 _ x1 h1 (itok_rg (by omega) zz.2.2.2.2)⟩
    · rw [if_neg z] at w1; exact w1.elim
  · have := r1.length
    rw [hl] at this
    cases this
  · exact w1.elim
theorem si_rg2 {a b : Expr} (hg : Gl X "range") (hm : X.mg "range" = none) (hp : plainArg a = true) (hp2 : plainArg b = true) (h : SA X [a, b] ma) : SI X tg (.Call (.Name "range" p) [a, b] [] pos) (mRg ma) := fun ξ ρ H σ env st Z e0 hr w => by
  refine (pi_range2 hg hm pa_ra (by rw [star_cons hp, star_cons hp2]; rfl) (star_cons hp2)).ri (h ξ ρ H σ env st _ e0 hr (R.wp_mono (R.wp_bd.mp w) fun xs s w1 ρ1 H1 vs x1 h1 r1 hl => ?_))
  split at w1
  · have := r1.length
    rw [hl] at this
    cases this
  · rename_i a b
    obtain ⟨v, u, rfl, q, q2⟩ := r1.two
    cases q; cases q2
    by_cases z : rgB a b = true
    · rw [if_pos z] at w1
      have zz := rgB_ok z
      exact ⟨a, b, rfl, ⟨zz.1, zz.2.1, zz.2.2.1, zz.2.2.2.1⟩, w1 ρ1 H1 _ x1 h1 (itok_rg rfl zz.2.2.2.2)⟩
    · rw [if_neg z] at w1; exact w1.elim
  · exact w1.elim
end
end Rf
set_option maxHeartbeats 4000000
namespace Rf
open PySem PySem.Spec L2
open PyProof.Rows hiding St
/-! ## pairs that are walked: zip, enumerate (over lists, tuples, texts that stay as they are) -/
inductive Knd where
  | l (a : Addr)
  | t (a : Addr)
  | s (x : Str)
def Knd.v : Knd → V
  | .l a => .ref a
  | .t a => .ref a
  | .s x => .str x
def Knd.sq (K : PySem.W.Frag) (H : Hp) : Knd → List V → Prop
  | .l a, vs => SqL K H a vs
  | .t a, vs => SqT K H a vs
  | .s x, vs => vs = x.cps.toList.map fun c => V.str ⟨#[c]⟩
def Knd.base : Knd → List Addr
  | .l a => [a]
  | .t a => [a]
  | .s _ => []
/-- the iterator's own cell, at the i-th turn -/
def Knd.pr (it : Addr) (u : Value) : Knd → Nat → Heap → Prop
  | .l a, i, h => h.IsListIter it a i
  | .t a, i, h => h.IsTupleIter it a i
  | .s x, i, h => ∃ t, u = .str x t ∧ h.IsStrIter it (strIterType x) x t i
def Knd.ob (u : Value) : Knd → Obj
  | .l _ => { cls := .type "list_iterator", data := .fields #[u, .int 0 0] }
  | .t _ => { cls := .type "tuple_iterator", data := .fields #[u, .int 0 0] }
  | .s x => { cls := .type (strIterType x), data := .fields #[u, .int 0 0] }
theorem Knd.free (u : Value) (k : Knd) : (k.ob u).isFreed = false := by cases k <;> rfl
theorem Knd.pr0 {it : Addr} {u : Value} {k : Knd} {h : Heap} (r : RelV k.v u) (e : h.get? it = some (k.ob u)) : k.pr it u 0 h := by
  cases k with
  | l a => cases r; exact ⟨_, e, rfl, rfl⟩
  | t a => cases r; exact ⟨_, e, rfl, rfl⟩
  | s x => obtain ⟨t, rfl⟩ := r; exact ⟨t, rfl, _, e, rfl, rfl⟩
theorem Knd.live {it : Addr} {u : Value} {k : Knd} {i : Nat} {h : Heap} (p : k.pr it u i h) : ∃ o, h.get? it = some o ∧ ∀ v, o.data ≠ .cell v := by
  cases k with
  | l a => obtain ⟨o, e, _, d⟩ := p; exact ⟨o, e, fun v z => by rw [d] at z; cases z⟩
  | t a => obtain ⟨o, e, _, d⟩ := p; exact ⟨o, e, fun v z => by rw [d] at z; cases z⟩
  | s x => obtain ⟨t, _, o, e, _, d⟩ := p; exact ⟨o, e, fun v z => by rw [d] at z; cases z⟩
theorem Knd.stay {it : Addr} {u : Value} {k : Knd} {i : Nat} {h h' : Heap} (p : k.pr it u i h) (q : ∀ o, h.get? it = some o → h'.get? it = some o) : k.pr it u i h' := by
  cases k with
  | l a => exact Heap.IsListIter.at p q
  | t a => exact Heap.IsTupleIter.at p q
  | s x => obtain ⟨t, rfl, o, e, r⟩ := p; exact ⟨t, rfl, o, q _ e, r⟩
theorem draws_by {P : Program} {w : World} {A : Around} {it : Addr} {fp : List Addr} {n : Nat} {Q Q' : Nat → Value → Prop} {St : Nat → Heap → Prop} (D : Draws P w A it fp n Q St) (h : ∀ i v, Q i v → Q' i v) : Draws P w A it fp n Q' St where
  live := D.live
  frame := D.frame
  item := fun i s R E hi st hR => D.item i s R E hi st fun x h' tk hp => hR x h' tk (h i x hp)
  done := D.done
section
variable {X : Cx} {pins : List (Addr × Obj)} {s : Shared} {σ : L2.St} {H : Hp}
theorem Knd.one (I : Inv X pins σ H s) {k : Knd} {xs ys : List V} (h : k.sq X.K H xs) (h' : k.sq X.K H ys) : xs = ys := by
  cases k with
  | l a => exact I.list_inj h h'
  | t a => exact I.tuple_inj h h'
  | s x => exact h.trans h'.symm
theorem vals_at {xs : List V} {us : List Value} (r : Vals xs us) {i : Nat} {u : Value} (h : us.toArray[i]? = some u) : ∃ x, xs[i]? = some x ∧ RelV x u := by
  have hi : i < us.length := by
    have := (Array.getElem?_eq_some_iff.mp h).1
    simpa using this
  have hl : i < xs.length := by rw [r.length]; exact hi
  obtain ⟨u', hu, ru⟩ := r.get (List.getElem?_eq_getElem hl)
  have e : us[i]? = some u := by simpa using h
  rw [hu] at e
  cases e
  exact ⟨_, List.getElem?_eq_getElem hl, ru⟩
/-- what an iterator over it draws -/
theorem Knd.drw (I : Inv X pins σ H s) (hc : X.calm = true) {k : Knd} {xs : List V} {u : Value} {it : Addr} (h : k.sq X.K H xs) (r : RelV k.v u) (hb : it ∉ k.base) :
    ∃ St, Draws X.prog X.w X.A.in1 it (it :: k.base) xs.length (fun i v => ∃ x, xs[i]? = some x ∧ RelV x v) St ∧ (∀ i, k.pr it u i s.heap → St i s.heap) ∧ ∀ i h, St i h → k.pr it u i h := by
  have hh : X.A.in1.handled = none := I.ok.hd hc
  cases k with
  | l a =>
    obtain ⟨us, rv, p, _⟩ := I.list h
    have D := Draws.list (prog := X.prog) (w := X.w) (A := X.A.in1) hh it a (fun e => hb (by simp [Knd.base, e])) us.toArray
    rw [List.size_toArray, ← rv.length] at D
    exact ⟨_, draws_by D fun i v q => vals_at rv q, fun i q => ⟨q, p.isList⟩, fun i h q => q.1⟩
  | t a =>
    obtain ⟨us, rv, p, _⟩ := I.tuple h
    have D := Draws.tuple (prog := X.prog) (w := X.w) (A := X.A.in1) hh it a (fun e => hb (by simp [Knd.base, e])) us.toArray
    rw [List.size_toArray, ← rv.length] at D
    exact ⟨_, draws_by D fun i v q => vals_at rv q, fun i q => ⟨q, p⟩, fun i h q => q.1⟩
  | s x =>
    obtain ⟨t, rfl⟩ := r
    have D := Draws.text (prog := X.prog) (w := X.w) (A := X.A.in1) hh it x t
    have e : x.cps.size = xs.length := by rw [h]; simp
    rw [e] at D
    refine ⟨_, draws_by D fun i v q => ?_, fun i q => ?_, fun i h q => ⟨t, rfl, q⟩⟩
    · obtain ⟨c, u, e1, rfl⟩ := q
      refine ⟨.str ⟨#[c]⟩, ?_, ⟨u, rfl⟩⟩
      rw [h, List.getElem?_map]
      have e2 : x.cps.toList[i]? = some c := by simpa using e1
      rw [e2] <;> rfl
    · obtain ⟨t', e1, q⟩ := q
      cases e1
      exact q
/-- an iterator over it is laid -/
theorem Knd.beg (I : Inv X pins σ H s) {k : Knd} {xs : List V} {u : Value} (h : k.sq X.K H xs) (r : RelV k.v u) : ∃ hB, Begins u (k.ob u) hB ∧ hB s.heap ∧ ∀ b ∈ k.base, b < s.heap.objs.size := by
  cases k with
  | l a =>
    cases r
    obtain ⟨us, rv, p, _⟩ := I.list h
    exact ⟨_, begins_list a us.toArray, p.isList, fun b hb => by rw [List.mem_singleton.mp hb]; exact p.lt⟩
  | t a =>
    cases r
    obtain ⟨us, rv, p, _⟩ := I.tuple h
    refine ⟨_, begins_tuple a us.toArray, p, fun b hb => ?_⟩
    rw [List.mem_singleton.mp hb]
    obtain ⟨o, e, _⟩ := p
    exact Heap.lt_size e
  | s x =>
    obtain ⟨t, rfl⟩ := r
    exact ⟨_, begins_text x t, trivial, nofun⟩
/-- a new tuple is handed out by an iterator that turned its own cells -/
theorem tup_out {H : Hp} {h' : Heap} {tk : Nat} {ch : List Addr} {T : Addr} {xs : List V} {us : List Value} (I : Inv X pins σ H s) (hf : ∀ b ∈ ch, FpOk X pins H b) (hk : ∀ b o, b ∉ ch → s.heap.get? b = some o → h'.get? b = some o) (hT : s.heap.objs.size ≤ T) (hl : xs.length ≤ sizeLine) (r : Vals xs us) (ht : h'.IsTuple T us.toArray) :
    Inv X pins σ (upd H T (.tup xs)) { s with heap := h', toks := tk } ∧ H T = none := ⟨I.turnedNew (t' := tk) (ch := ch) hk hf hT ⟨hl, us, r, ht⟩, I.hok.fresh hT⟩
end
/-- the cells stay out of the heap when a new place is taken -/
theorem cells_out {H : Hp} {X : Cx} {pins : List (Addr × Obj)} {ch : List Addr} {s : Shared} {T : Addr} {o : HO} (hf : ∀ b ∈ ch, FpOk X pins H b) (hx : ∀ b ∈ ch, ∃ o, s.heap.get? b = some o) (hT : s.heap.objs.size ≤ T) : ∀ b ∈ ch, (upd H T o) b = none := fun b hb => by
  obtain ⟨z, e⟩ := hx b hb
  rw [upd_ne (fun q => by rw [q] at e; exact absurd (Nat.lt_of_lt_of_le (Heap.lt_size e) hT) (Nat.lt_irrefl _))]
  exact (hf b hb).1
/-! ### zip of two -/
def ItZ (K : PySem.W.Frag) (k1 k2 : Knd) : It :=
  ⟨fun i H => ∃ xs ys x y, k1.sq K H xs ∧ k2.sq K H ys ∧ xs[i]? = some x ∧ ys[i]? = some y,
    fun i H v H' => ∃ T x y, v = .ref T ∧ H T = none ∧ H' = upd H T (.tup [x, y]) ∧ (∀ xs, k1.sq K H xs → xs[i]? = some x) ∧ ∀ ys, k2.sq K H ys → ys[i]? = some y,
    fun i H => ∃ xs ys, k1.sq K H xs ∧ k2.sq K H ys ∧ i = min xs.length ys.length⟩
theorem turnZ {P : Program} {w : World} {K : PySem.W.Frag} {elts : List Expr} {kk : Nat} {tpos : Pos} {k1 k2 : Knd} {u1 u2 : Value} {z TI TO i1 i2 : Addr} (S : ZipSep2 z TI TO i1 i2 (i1 :: k1.base) (i2 :: k2.base)) (n1 : i1 ∉ k1.base) (n2 : i2 ∉ k2.base) (r1 : RelV k1.v u1) (r2 : RelV k2.v u2) :
    Turn P w K (.Tuple elts kk tpos) (ItZ K k1 k2) [z, TI, TO, i1, i2] z (fun i h => IsZip h z TI TO .none ∧ IsTupOf2 h TI (.ref i1) (.ref i2) ∧ (∃ a1 a2, IsTupOf2 h TO a1 a2) ∧ k1.pr i1 u1 i h ∧ k2.pr i2 u2 i h) where
  mem := by simp
  obj := fun i h st c hc => by
    obtain ⟨hz, hTI, ⟨a1, a2, hTO⟩, q1, q2⟩ := st
    have hc' : c = z ∨ c = TI ∨ c = TO ∨ c = i1 ∨ c = i2 := by simpa using hc
    rcases hc' with q | q | q | q | q
    · rw [q]; exact ⟨_, hz, fun v e => nomatch e⟩
    · rw [q]; exact ⟨_, hTI, fun v e => nomatch e⟩
    · rw [q]; exact ⟨_, hTO, fun v e => nomatch e⟩
    · rw [q]; exact (Knd.live q1)
    · rw [q]; exact (Knd.live q2)
  keep := fun i h h' st q => by
    obtain ⟨hz, hTI, ⟨a1, a2, hTO⟩, q1, q2⟩ := st
    exact ⟨q z (by simp) _ hz, q TI (by simp) _ hTI, ⟨a1, a2, q TO (by simp) _ hTO⟩, Knd.stay q1 (q i1 (by simp)), Knd.stay q2 (q i2 (by simp))⟩
  item := by
    intro X hP hw hK hc i pins s σ H E I hf st hg
    subst hP hw hK
    obtain ⟨hz, hTI, hTO, q1, q2⟩ := st
    obtain ⟨xs, ys, x, y, hx, hy, ex, ey⟩ := hg
    obtain ⟨S1, D1, e1, o1⟩ := Knd.drw I hc hx r1 (it := i1) n1
    obtain ⟨S2, D2, e2, o2⟩ := Knd.drw I hc hy r2 (it := i2) n2
    have W := GoesN.zip2 (elts := elts) (x1 := kk) (pos := tpos) S D1 D2
    have hi : i < min xs.length ys.length := Nat.lt_min.mpr ⟨(List.getElem?_eq_some_iff.mp ex).1, (List.getElem?_eq_some_iff.mp ey).1⟩
    refine W.goes i s (fun v s2 => ∃ x H', Inv X pins σ H' s2 ∧ RelV x v ∧ (ItZ X.K k1 k2).yld i H x H' ∧ _ ∧ ∀ b ∈ [z, TI, TO, i1, i2], H' b = none) E hi ⟨hz, hTI, hTO, e1 i q1, e2 i q2⟩ fun v h' tk hY hS hk _ => ?_
    obtain ⟨T, u, u', rfl, hT, ⟨x', ex', rx⟩, ⟨y', ey', ry⟩, ht⟩ := hY
    obtain ⟨I1, hn⟩ := tup_out (tk := tk) (ch := [z, TI, TO, i1, i2]) (xs := [x', y']) (us := [u, u']) I hf (fun b o hb e => hk b o (fun q => hb (by
      have q' : b = z ∨ b = TO ∨ b = i1 ∨ b = i2 := by simpa using q
      rcases q' with q' | q' | q' | q' <;> simp [q'])) e) hT (by show 2 ≤ sizeLine; decide) (.cons rx (.cons ry .nil)) ht
    refine ⟨.ref T, _, I1, rfl, ⟨T, x', y', rfl, hn, rfl, fun l hl => by rw [Knd.one I hl hx]; exact ex', fun l hl => by rw [Knd.one I hl hy]; exact ey'⟩, ⟨hS.1, hS.2.1, hS.2.2.1, o1 _ _ hS.2.2.2.1, o2 _ _ hS.2.2.2.2⟩, cells_out hf (fun b hb => ?_) hT⟩
    have hb' : b = z ∨ b = TI ∨ b = TO ∨ b = i1 ∨ b = i2 := by simpa using hb
    rcases hb' with q | q | q | q | q
    · rw [q]; exact ⟨_, hz⟩
    · rw [q]; exact ⟨_, hTI⟩
    · rw [q]; obtain ⟨_, _, e⟩ := hTO; exact ⟨_, e⟩
    · rw [q]; obtain ⟨_, e, _⟩ := (Knd.live q1); exact ⟨_, e⟩
    · rw [q]; obtain ⟨_, e, _⟩ := (Knd.live q2); exact ⟨_, e⟩
  done := by
    intro X hP hw hK hc i pins s σ H E I hf st hg
    subst hP hw hK
    obtain ⟨hz, hTI, hTO, q1, q2⟩ := st
    obtain ⟨xs, ys, hx, hy, rfl⟩ := hg
    obtain ⟨S1, D1, e1, o1⟩ := Knd.drw I hc hx r1 (it := i1) n1
    obtain ⟨S2, D2, e2, o2⟩ := Knd.drw I hc hy r2 (it := i2) n2
    have W := GoesN.zip2 (elts := elts) (x1 := kk) (pos := tpos) S D1 D2
    exact W.stops s (fun s1 => Inv X pins σ H s1) E ⟨hz, hTI, hTO, e1 _ q1, e2 _ q2⟩ fun h' tk hk _ => I.turnedL (t' := tk) (ch := [z, TI, TO, i1, i2]) (fun b o hb e => hk b o (fun q => hb (by
      have q' : b = z ∨ b = TO ∨ b = i1 ∨ b = i2 := by simpa using q
      rcases q' with q' | q' | q' | q' <;> simp [q'])) e) hf
  self := fun A i s Q E st h => wpAny_pyIter_zip st.1 h
/-! ### zip of three -/
def ItZ3 (K : PySem.W.Frag) (k1 k2 k3 : Knd) : It :=
  ⟨fun i H => ∃ xs ys zs x y r, k1.sq K H xs ∧ k2.sq K H ys ∧ k3.sq K H zs ∧ xs[i]? = some x ∧ ys[i]? = some y ∧ zs[i]? = some r,
    fun i H v H' => ∃ T x y r, v = .ref T ∧ H T = none ∧ H' = upd H T (.tup [x, y, r]) ∧ (∀ xs, k1.sq K H xs → xs[i]? = some x) ∧ (∀ ys, k2.sq K H ys → ys[i]? = some y) ∧ ∀ zs, k3.sq K H zs → zs[i]? = some r,
    fun i H => ∃ xs ys zs, k1.sq K H xs ∧ k2.sq K H ys ∧ k3.sq K H zs ∧ i = min (min xs.length ys.length) zs.length⟩
theorem turnZ3 {P : Program} {w : World} {K : PySem.W.Frag} {elts : List Expr} {kk : Nat} {tpos : Pos} {k1 k2 k3 : Knd} {u1 u2 u3 : Value} {z TI TO i1 i2 i3 : Addr} (S : ZipSep3 z TI TO i1 i2 i3 (i1 :: k1.base) (i2 :: k2.base) (i3 :: k3.base))
    (n1 : i1 ∉ k1.base) (n2 : i2 ∉ k2.base) (n3 : i3 ∉ k3.base) (r1 : RelV k1.v u1) (r2 : RelV k2.v u2) (r3 : RelV k3.v u3) :
    Turn P w K (.Tuple elts kk tpos) (ItZ3 K k1 k2 k3) [z, TI, TO, i1, i2, i3] z (fun i h => IsZip h z TI TO .none ∧ IsTupOf3 h TI (.ref i1) (.ref i2) (.ref i3) ∧ (∃ a1 a2 a3, IsTupOf3 h TO a1 a2 a3) ∧ k1.pr i1 u1 i h ∧ k2.pr i2 u2 i h ∧ k3.pr i3 u3 i h) where
  mem := by simp
  obj := fun i h st c hc => by
    obtain ⟨hz, hTI, ⟨a1, a2, a3, hTO⟩, q1, q2, q3⟩ := st
    have hc' : c = z ∨ c = TI ∨ c = TO ∨ c = i1 ∨ c = i2 ∨ c = i3 := by simpa using hc
    rcases hc' with q | q | q | q | q | q
    · rw [q]; exact ⟨_, hz, fun v e => nomatch e⟩
    · rw [q]; exact ⟨_, hTI, fun v e => nomatch e⟩
    · rw [q]; exact ⟨_, hTO, fun v e => nomatch e⟩
    · rw [q]; exact Knd.live q1
    · rw [q]; exact Knd.live q2
    · rw [q]; exact Knd.live q3
  keep := fun i h h' st q => by
    obtain ⟨hz, hTI, ⟨a1, a2, a3, hTO⟩, q1, q2, q3⟩ := st
    exact ⟨q z (by simp) _ hz, q TI (by simp) _ hTI, ⟨a1, a2, a3, q TO (by simp) _ hTO⟩, Knd.stay q1 (q i1 (by simp)), Knd.stay q2 (q i2 (by simp)), Knd.stay q3 (q i3 (by simp))⟩
  item := by
    intro X hP hw hK hc i pins s σ H E I hf st hg
    subst hP hw hK
    obtain ⟨hz, hTI, hTO, q1, q2, q3⟩ := st
    obtain ⟨xs, ys, zs, x, y, r, hx, hy, hr, ex, ey, er⟩ := hg
    obtain ⟨S1, D1, e1, o1⟩ := Knd.drw I hc hx r1 (it := i1) n1
    obtain ⟨S2, D2, e2, o2⟩ := Knd.drw I hc hy r2 (it := i2) n2
    obtain ⟨S3, D3, e3, o3⟩ := Knd.drw I hc hr r3 (it := i3) n3
    have W := GoesN.zip3 (elts := elts) (x1 := kk) (pos := tpos) S D1 D2 D3
    have hi : i < min (min xs.length ys.length) zs.length := Nat.lt_min.mpr ⟨Nat.lt_min.mpr ⟨(List.getElem?_eq_some_iff.mp ex).1, (List.getElem?_eq_some_iff.mp ey).1⟩, (List.getElem?_eq_some_iff.mp er).1⟩
    refine W.goes i s (fun v s2 => ∃ x H', Inv X pins σ H' s2 ∧ RelV x v ∧ (ItZ3 X.K k1 k2 k3).yld i H x H' ∧ _ ∧ ∀ b ∈ [z, TI, TO, i1, i2, i3], H' b = none) E hi ⟨hz, hTI, hTO, e1 i q1, e2 i q2, e3 i q3⟩ fun v h' tk hY hS hk _ => ?_
    obtain ⟨T, u, u', u'', rfl, hT, ⟨x', ex', rx⟩, ⟨y', ey', ry⟩, ⟨t', er', rt⟩, ht⟩ := hY
    obtain ⟨I1, hn⟩ := tup_out (tk := tk) (ch := [z, TI, TO, i1, i2, i3]) (xs := [x', y', t']) (us := [u, u', u'']) I hf (fun b o hb e => hk b o (fun q => hb (by
      have q' : b = z ∨ b = TO ∨ b = i1 ∨ b = i2 ∨ b = i3 := by simpa using q
      rcases q' with q' | q' | q' | q' | q' <;> simp [q'])) e) hT (by show 3 ≤ sizeLine; decide) (.cons rx (.cons ry (.cons rt .nil))) ht
    refine ⟨.ref T, _, I1, rfl, ⟨T, x', y', t', rfl, hn, rfl, fun l hl => by rw [Knd.one I hl hx]; exact ex', fun l hl => by rw [Knd.one I hl hy]; exact ey', fun l hl => by rw [Knd.one I hl hr]; exact er'⟩, ⟨hS.1, hS.2.1, hS.2.2.1, o1 _ _ hS.2.2.2.1, o2 _ _ hS.2.2.2.2.1, o3 _ _ hS.2.2.2.2.2⟩, cells_out hf (fun b hb => ?_) hT⟩
    have hb' : b = z ∨ b = TI ∨ b = TO ∨ b = i1 ∨ b = i2 ∨ b = i3 := by simpa using hb
    rcases hb' with q | q | q | q | q | q
    · rw [q]; exact ⟨_, hz⟩
    · rw [q]; exact ⟨_, hTI⟩
    · rw [q]; obtain ⟨_, _, _, e⟩ := hTO; exact ⟨_, e⟩
    · rw [q]; obtain ⟨_, e, _⟩ := Knd.live q1; exact ⟨_, e⟩
    · rw [q]; obtain ⟨_, e, _⟩ := Knd.live q2; exact ⟨_, e⟩
    · rw [q]; obtain ⟨_, e, _⟩ := Knd.live q3; exact ⟨_, e⟩
  done := by
    intro X hP hw hK hc i pins s σ H E I hf st hg
    subst hP hw hK
    obtain ⟨hz, hTI, hTO, q1, q2, q3⟩ := st
    obtain ⟨xs, ys, zs, hx, hy, hr, rfl⟩ := hg
    obtain ⟨S1, D1, e1, o1⟩ := Knd.drw I hc hx r1 (it := i1) n1
    obtain ⟨S2, D2, e2, o2⟩ := Knd.drw I hc hy r2 (it := i2) n2
    obtain ⟨S3, D3, e3, o3⟩ := Knd.drw I hc hr r3 (it := i3) n3
    have W := GoesN.zip3 (elts := elts) (x1 := kk) (pos := tpos) S D1 D2 D3
    exact W.stops s (fun s1 => Inv X pins σ H s1) E ⟨hz, hTI, hTO, e1 _ q1, e2 _ q2, e3 _ q3⟩ fun h' tk hk _ => I.turnedL (t' := tk) (ch := [z, TI, TO, i1, i2, i3]) (fun b o hb e => hk b o (fun q => hb (by
      have q' : b = z ∨ b = TO ∨ b = i1 ∨ b = i2 ∨ b = i3 := by simpa using q
      rcases q' with q' | q' | q' | q' | q' <;> simp [q'])) e) hf
  self := fun A i s Q E st h => wpAny_pyIter_zip st.1 h
/-! ### enumerate -/
def ItE (K : PySem.W.Frag) (k : Knd) : It :=
  ⟨fun i H => ∃ xs x, k.sq K H xs ∧ xs[i]? = some x,
    fun i H v H' => ∃ T x, v = .ref T ∧ H T = none ∧ H' = upd H T (.tup [.int (i : Nat), x]) ∧ ∀ xs, k.sq K H xs → xs[i]? = some x,
    fun i H => ∃ xs, k.sq K H xs ∧ i = xs.length⟩
theorem turnE {P : Program} {w : World} {K : PySem.W.Frag} {elts : List Expr} {kk : Nat} {tpos : Pos} {k : Knd} {u : Value} {e it : Addr} (he : e ∉ it :: k.base) (n1 : it ∉ k.base) (r1 : RelV k.v u) :
    Turn P w K (.Tuple elts kk tpos) (ItE K k) [e, it] e (fun i h => (∃ old, IsEnum h e it (0 + (i : Int)) old) ∧ k.pr it u i h) where
  mem := by simp
  obj := fun i h st c hc => by
    obtain ⟨⟨old, he⟩, q1⟩ := st
    have hc' : c = e ∨ c = it := by simpa using hc
    rcases hc' with q | q
    · rw [q]; exact ⟨_, he, fun v e => nomatch e⟩
    · rw [q]; exact Knd.live q1
  keep := fun i h h' st q => by
    obtain ⟨⟨old, he⟩, q1⟩ := st
    exact ⟨⟨old, q e (by simp) _ he⟩, Knd.stay q1 (q it (by simp))⟩
  item := by
    intro X hP hw hK hc i pins s σ H E I hf st hg
    subst hP hw hK
    obtain ⟨hE, q1⟩ := st
    obtain ⟨xs, x, hx, ex⟩ := hg
    obtain ⟨S1, D1, e1, o1⟩ := Knd.drw I hc hx r1 (it := it) n1
    have W := GoesN.enumFrom (elts := elts) (x1 := kk) (pos := tpos) 0 D1 e (fun q => he (by simp [q])) he (List.mem_cons_self ..)
    refine W.goes i s (fun v s2 => ∃ x H', Inv X pins σ H' s2 ∧ RelV x v ∧ (ItE X.K k).yld i H x H' ∧ _ ∧ ∀ b ∈ [e, it], H' b = none) E (List.getElem?_eq_some_iff.mp ex).1 ⟨hE, e1 i q1⟩ fun v h' tk hY hS hk _ => ?_
    obtain ⟨T, t, u', rfl, hT, ⟨x', ex', rx⟩, ht⟩ := hY
    have z0 : (0 : Int) + (i : Nat) = (i : Nat) := by omega
    rw [z0] at ht
    obtain ⟨I1, hn⟩ := tup_out (tk := tk) (ch := [e, it]) (xs := [.int (i : Nat), x']) (us := [.int (i : Nat) t, u']) I hf hk hT (by show 2 ≤ sizeLine; decide) (.cons ⟨t, rfl⟩ (.cons rx .nil)) ht
    refine ⟨.ref T, _, I1, rfl, ⟨T, x', rfl, hn, rfl, fun l hl => by rw [Knd.one I hl hx]; exact ex'⟩, ⟨hS.1, o1 _ _ hS.2⟩, cells_out hf (fun b hb => ?_) hT⟩
    have hb' : b = e ∨ b = it := by simpa using hb
    rcases hb' with q | q
    · rw [q]; obtain ⟨_, e⟩ := hE; exact ⟨_, e⟩
    · rw [q]; obtain ⟨_, e, _⟩ := Knd.live q1; exact ⟨_, e⟩
  done := by
    intro X hP hw hK hc i pins s σ H E I hf st hg
    subst hP hw hK
    obtain ⟨hE, q1⟩ := st
    obtain ⟨xs, hx, rfl⟩ := hg
    obtain ⟨S1, D1, e1, o1⟩ := Knd.drw I hc hx r1 (it := it) n1
    have W := GoesN.enumFrom (elts := elts) (x1 := kk) (pos := tpos) 0 D1 e (fun q => he (by simp [q])) he (List.mem_cons_self ..)
    exact W.stops s (fun s1 => Inv X pins σ H s1) E ⟨hE, e1 _ q1⟩ fun h' tk hk _ => I.turnedL (t' := tk) (ch := [e, it]) hk hf
  self := fun A i s Q E st h => let ⟨⟨_, he⟩, _⟩ := st; wpAny_pyIter_enum he h
theorem meets_enum1 {v : Value} {ob : Obj} {hB : Heap → Prop} (B : Begins v ob hB) :
    Meets (Builtin.«enumerate.__new__» ⟨[.type "enumerate", v], []⟩) (fun _ R s => hB s.heap ∧
      R (.ok (.ret (.ref (s.heap.push ob).objs.size))) { s with heap := (s.heap.push ob).push { cls := .type "enumerate", data := .fields #[.none, .bool false, .ref s.heap.objs.size, rawInt 0, .none, .none] } }) :=
  .of_wp fun prog w A R s hyp => by
    obtain ⟨h0, g0, d0, t0, o0⟩ := s
    obtain ⟨hb, hyp⟩ := hyp
    have hsub := sub_enumerate
    have it1 : ∀ {A' : Around} {E : Value → Shared → Prop} {Q : Value → Shared → Prop}, Q (.ref h0.objs.size) ⟨h0.push ob, g0, d0, t0, o0⟩ → wpAny (model prog w) A' (pyIter v) Q E ⟨h0, g0, d0, t0, o0⟩ :=
      fun hq => B.iter prog w _ _ ⟨h0, g0, d0, t0, o0⟩ _ hb hq
    wp_walk using it1
    refine wpAny_stack_any fun stk => wpAny_pure ?_
    split
    · rename_i cl _ _ _ _ _
      cases (cl == Value.type "enumerate")
      · wp_walk using it1
        exact ⟨_, rfl, hyp⟩
      · wp_walk using it1
        exact ⟨_, rfl, hyp⟩
    · wp_walk using it1
      exact ⟨_, rfl, hyp⟩
theorem enum_beg {prog : Program} {w : World} {A : Around} {E : Value → Shared → Prop} {s : Shared} {v : Value} {ob : Obj} {hB : Heap → Prop} {Q : Value → Shared → Prop} (B : Begins v ob hB) (hb : hB s.heap)
    (hQ : ∀ h', IsEnum h' (s.heap.objs.size + 1) s.heap.objs.size 0 .none → h'.get? s.heap.objs.size = some ob → (∀ b o, s.heap.get? b = some o → h'.get? b = some o) → Q (.ref (s.heap.objs.size + 1)) { s with heap := h' }) :
    wpAny (model prog w) A (call (.type "enumerate") [v]) Q E s := by
  refine callType_new F.called_enumerate (by decide) (F.typeCall_enumerate_1 _) (F.newCall_enumerate_1 _) (fun obj => F.args_object_init_2 obj _) F.entry_enumerate_new (meets_enum1 B) ⟨hb, ?_⟩
  have sz : (s.heap.push ob).objs.size = s.heap.objs.size + 1 := Heap.size_push ..
  show _ ∧ _
  rw [sz]
  have q := Heap.get?_push_size (s.heap.push ob) (o := { cls := .type "enumerate", data := .fields #[.none, .bool false, .ref s.heap.objs.size, rawInt 0, .none, .none] }) rfl
  rw [sz] at q
  exact ⟨⟨_, q, rfl⟩, hQ _ q (Heap.get?_push_of_some _ (Heap.get?_push_size _ B.free)) fun b o e => Heap.get?_push_of_some _ (Heap.get?_push_of_some _ e)⟩
/-! ### the calls -/
section
variable {X : Cx} {er : List Expr} {e : Expr} {ta : TA} {p pos tpos : Pos} {elts : List Expr} {kk : Nat}
theorem vals_cons {x : V} {xs : List V} {us : List Value} (r : Vals (x :: xs) us) : ∃ u r', us = u :: r' ∧ RelV x u ∧ Vals xs r' := by
  cases r with
  | cons h t => exact ⟨_, _, rfl, h, t⟩
theorem vals_nil {us : List Value} (r : Vals [] us) : us = [] := by cases r; rfl
theorem not_base {N j : Nat} {l : List Addr} (h : ∀ b ∈ l, b < N) : N + j ∉ l := fun q => by
  have : (N + j : Nat) < N := h _ q
  omega
theorem pi_zipK (hg : Gl X "zip") (hm : X.mg "zip" = none) (ha : PA X (e :: er) ta) (h1 : starEach (e :: er) X.env = (false, eval e X.env) :: starEach er X.env) (h2 : (backTo pos (starEach er X.env)).any (·.1) = false) :
    PI X (.Tuple elts kk tpos) (.Call (.Name "zip" p) (e :: er) [] pos) (fun σ H R => ta σ H fun vs H1 => (∃ k1 k2 xs ys, vs = [k1.v, k2.v] ∧ k1.sq X.K H1 xs ∧ k2.sq X.K H1 ys ∧ R (ItZ X.K k1 k2) H1) ∨
      ∃ k1 k2 k3 xs ys zs, vs = [k1.v, k2.v, k3.v] ∧ k1.sq X.K H1 xs ∧ k2.sq X.K H1 ys ∧ k3.sq X.K H1 zs ∧ R (ItZ3 X.K k1 k2 k3) H1) := by
  constructor
  intro pins s σ H R I h
  refine Call_ (ld_blt I hg hm PyProof.Rows.boot_zip (PyProof.Rows.callWith_type1 (thn (ha.run pos pins s σ H _ I h) fun us s1 ⟨vs, H1, I1, r1, q1⟩ => ?_) h1 h2))
  rcases q1 with ⟨k1, k2, xs, ys, rfl, hx, hy, q⟩ | ⟨k1, k2, k3, xs, ys, zs, rfl, hx, hy, hz3, q⟩
  · obtain ⟨u1, r, rfl, ra, r1⟩ := vals_cons r1
    obtain ⟨u2, r, rfl, rb, r1⟩ := vals_cons r1
    cases vals_nil r1
    · skip
      obtain ⟨B1, b1, m1, f1⟩ := Knd.beg I1 hx ra
      obtain ⟨B2, b2, m2, f2⟩ := Knd.beg I1 hy rb
      refine zip_begins2 b1 b2 m1 m2 fun h' hz hTI hTO g1 g2 hsz hk => wpAny_pyIter_zip hz ?_
      have I2 : Inv X pins σ H1 { s1 with heap := h' } := I1.kept (t' := s1.toks) hk
      refine ⟨s1.heap.objs.size + 4, [s1.heap.objs.size + 4, s1.heap.objs.size + 2, s1.heap.objs.size + 3, s1.heap.objs.size, s1.heap.objs.size + 1], _, _, H1, rfl, I2,
        turnZ (zip_sep2 f1 f2) (not_base (j := 0) f1) (not_base f2) ra rb, ⟨hz, hTI, ⟨_, _, hTO⟩, Knd.pr0 ra g1, Knd.pr0 rb g2⟩, fun c hc => ?_, q⟩
      have le : s1.heap.objs.size ≤ c := by
        have hc' : c = s1.heap.objs.size + 4 ∨ c = s1.heap.objs.size + 2 ∨ c = s1.heap.objs.size + 3 ∨ c = s1.heap.objs.size ∨ c = s1.heap.objs.size + 1 := by simpa using hc
        rcases hc' with q | q | q | q | q
        · rw [q]; exact Nat.le_add_right _ _
        · rw [q]; exact Nat.le_add_right _ _
        · rw [q]; exact Nat.le_add_right _ _
        · rw [q]; exact Nat.le_refl _
        · rw [q]; exact Nat.le_add_right _ _
      exact I1.fpOk le (I1.hok.fresh le)
  · obtain ⟨u1, r, rfl, ra, r1⟩ := vals_cons r1
    obtain ⟨u2, r, rfl, rb, r1⟩ := vals_cons r1
    obtain ⟨u3, r, rfl, rc, r1⟩ := vals_cons r1
    cases vals_nil r1
    · skip
      obtain ⟨B1, b1, m1, f1⟩ := Knd.beg I1 hx ra
      obtain ⟨B2, b2, m2, f2⟩ := Knd.beg I1 hy rb
      obtain ⟨B3, b3, m3, f3⟩ := Knd.beg I1 hz3 rc
      refine zip_begins3 b1 b2 b3 m1 m2 m3 fun h' hz hTI hTO g1 g2 g3 hsz hk => wpAny_pyIter_zip hz ?_
      have I2 : Inv X pins σ H1 { s1 with heap := h' } := I1.kept (t' := s1.toks) hk
      refine ⟨s1.heap.objs.size + 5, [s1.heap.objs.size + 5, s1.heap.objs.size + 3, s1.heap.objs.size + 4, s1.heap.objs.size, s1.heap.objs.size + 1, s1.heap.objs.size + 2], _, _, H1, rfl, I2,
        turnZ3 (zip_sep3 f1 f2 f3) (not_base (j := 0) f1) (not_base f2) (not_base f3) ra rb rc, ⟨hz, hTI, ⟨_, _, _, hTO⟩, Knd.pr0 ra g1, Knd.pr0 rb g2, Knd.pr0 rc g3⟩, fun c hc => ?_, q⟩
      have le : s1.heap.objs.size ≤ c := by
        have hc' : c = s1.heap.objs.size + 5 ∨ c = s1.heap.objs.size + 3 ∨ c = s1.heap.objs.size + 4 ∨ c = s1.heap.objs.size ∨ c = s1.heap.objs.size + 1 ∨ c = s1.heap.objs.size + 2 := by simpa using hc
        rcases hc' with q | q | q | q | q | q
        · rw [q]; exact Nat.le_add_right _ _
        · rw [q]; exact Nat.le_add_right _ _
        · rw [q]; exact Nat.le_add_right _ _
        · rw [q]; exact Nat.le_refl _
        · rw [q]; exact Nat.le_add_right _ _
        · rw [q]; exact Nat.le_add_right _ _
      exact I1.fpOk le (I1.hok.fresh le)
theorem pi_enumK (hg : Gl X "enumerate") (hm : X.mg "enumerate" = none) (ha : PA X (e :: er) ta) (h1 : starEach (e :: er) X.env = (false, eval e X.env) :: starEach er X.env) (h2 : (backTo pos (starEach er X.env)).any (·.1) = false) :
    PI X (.Tuple elts kk tpos) (.Call (.Name "enumerate" p) (e :: er) [] pos) (fun σ H R => ta σ H fun vs H1 => ∃ k xs, vs = [k.v] ∧ k.sq X.K H1 xs ∧ R (ItE X.K k) H1) := by
  constructor
  intro pins s σ H R I h
  refine Call_ (ld_blt I hg hm boot_enumerate (PyProof.Rows.callWith_type1 (thn (ha.run pos pins s σ H _ I h) fun us s1 ⟨vs, H1, I1, r1, q1⟩ => ?_) h1 h2))
  obtain ⟨k, xs, rfl, hx, q⟩ := q1
  obtain ⟨u1, r, rfl, ra, r1⟩ := vals_cons r1
  cases vals_nil r1
  · skip
    obtain ⟨B1, b1, m1, f1⟩ := Knd.beg I1 hx ra
    refine enum_beg b1 m1 fun h' he g1 hk => wpAny_pyIter_enum he ?_
    have I2 : Inv X pins σ H1 { s1 with heap := h' } := I1.kept (t' := s1.toks) hk
    refine ⟨s1.heap.objs.size + 1, [s1.heap.objs.size + 1, s1.heap.objs.size], _, _, H1, rfl, I2, turnE (notIn_new (j := 1) (i := 0) f1 (by omega)) (not_base (j := 0) f1) ra, ⟨⟨_, he⟩, Knd.pr0 ra g1⟩, fun c hc => ?_, q⟩
    have le : s1.heap.objs.size ≤ c := by
      have hc' : c = s1.heap.objs.size + 1 ∨ c = s1.heap.objs.size := by simpa using hc
      rcases hc' with q | q
      · rw [q]; exact Nat.le_add_right _ _
      · rw [q]; exact Nat.le_refl _
    exact I1.fpOk le (I1.hok.fresh le)
end
/-! ### their meaning -/
/-- the lists of the store that are walked, as they stand -/
def wkG : Option Gk → List D → List (Nat × List D)
  | some (.one n), a => [(n, a)]
  | _, _ => []
def jnG : List (Nat × List D) → Option Gk
  | [] => none
  | p :: l => some (.many (p :: l))
theorem jnG_ok {l : List (Nat × List D)} {ds : List D} {st : Sto} (h : gst (jnG l) ds st) : ∀ p ∈ l, st[p.1]? = some (.lst p.2) := by
  cases l with
  | nil => exact nofun
  | cons => exact h
/-- a value walked: what it is made of, as long as the lists of the store stand -/
theorem knd_of {K : Kx} {ρ : List Addr} {H : Hp} {v : V} {x : D} {s : Sto} {a : List D} {o : Option Gk} (hr : Hr K ρ H s) (r : Rp K ρ H v x) (h : itemsD x s = some (a, o)) :
    ∃ k, v = Knd.v k ∧ a.length ≤ sizeLine ∧ (∃ vs, k.sq K.K H vs) ∧ ∀ (K' : Kx) (ρ2 : List Addr) (H2 : Hp) (st2 : Sto), Xt ρ H ρ2 H2 → Mre K K' H → Hr K' ρ2 H2 st2 → (∀ p ∈ wkG o a, st2[p.1]? = some (.lst p.2)) → ∃ vs, k.sq K.K H2 vs ∧ Rps K' ρ2 H2 vs a := by
  cases r with
  | tup f z q => cases h; exact ⟨.t _, rfl, by rw [← q.length]; exact z, ⟨_, f.sq⟩, fun K' ρ2 H2 st2 x m _ _ => ⟨_, (f.xt x).sq, Rps.xt x _ _ (Rps.more m _ _ q)⟩⟩
  | lst n f z q => cases h; exact ⟨.l _, rfl, by rw [← q.length]; exact z, ⟨_, SqL.of f⟩, fun K' ρ2 H2 st2 x m _ _ => ⟨_, SqL.of (x.keep _ _ n.1 f), Rps.xt x _ _ (Rps.more m _ _ q)⟩⟩
  | ro f z q => cases h; exact ⟨.l _, rfl, by rw [← q.length]; exact z, ⟨_, f.sq⟩, fun K' ρ2 H2 st2 x m _ _ => ⟨_, (f.xt x).sq, Rps.xt x _ _ (Rps.more m _ _ q)⟩⟩
  | str y =>
    have h' : (if y.length ≤ sizeLine then some (strItems y, (none : Option Gk)) else none) = some (a, o) := h
    by_cases hz : y.length ≤ sizeLine
    · rw [if_pos hz] at h'
      cases h'
      refine ⟨.s y, rfl, by rw [strItems_len]; exact hz, ⟨_, rfl⟩, fun K' ρ2 H2 st2 x m _ _ => ⟨_, rfl, ?_⟩⟩
      unfold strItems
      generalize y.cps.toList = l
      induction l with
      | nil => exact .nil
      | cons c l ih => exact .cons (.str _) ih
    · rw [if_neg hz] at h'
      cases h'
  | ref hn =>
    rename_i ad n
    have h' : (match s[n]? with | some (.lst ds) => some (ds, some (Gk.one n)) | _ => none) = some (a, o) := h
    cases e : s[n]? with
    | none => rw [e] at h'; cases h'
    | some u =>
      rw [e] at h'
      cases u with
      | lst ds =>
        cases h'
        obtain ⟨xs, h1, h2, h3⟩ := hr.ob n ad _ hn e
        refine ⟨.l ad, rfl, by rw [← h3.length]; exact h2, ⟨xs, SqL.of h1⟩, fun K' ρ2 H2 st2 x m hr2 g => ?_⟩
        obtain ⟨ys, g1, g2, g3⟩ := hr2.ob n ad _ (x.get hn) (g (n, _) (.head _))
        exact ⟨ys, SqL.of g1, g3⟩
      | dct => cases h'
      | ins => cases h'
  | _ => cases h
theorem rp_pair {K : Kx} {ρ : List Addr} {H : Hp} {st : Sto} {T : Addr} {xs : List V} {ds : List D} (hr : Hr K ρ H st) (hT : H T = none) (hl : xs.length ≤ sizeLine) (r : Rps K ρ H xs ds) : Same H (upd H T (.tup xs)) ∧ Rp K ρ (upd H T (.tup xs)) (.ref T) (.tup ds) :=
  ⟨same_upd hT, .tup (.inl ⟨hr.new hT, .inl upd_same⟩) hl (Rps.xt (Xt.same (same_upd hT)) _ _ r)⟩
def zip2D (a b : List D) : List D := List.zipWith (fun x y => .tup [x, y]) a b
def zip3D : List D → List D → List D → List D
  | x :: a, y :: b, z :: c => .tup [x, y, z] :: zip3D a b c
  | _, _, _ => []
def enumD : Nat → List D → List D
  | _, [] => []
  | n, d :: r => .tup [.int (n : Nat), d] :: enumD (n + 1) r
theorem zip2D_at {a b : List D} {i : Nat} {d : D} (h : (zip2D a b)[i]? = some d) : ∃ x y, a[i]? = some x ∧ b[i]? = some y ∧ d = .tup [x, y] := by
  unfold zip2D at h
  rw [List.getElem?_zipWith] at h
  split at h
  · cases h
    exact ⟨_, _, by assumption, by assumption, rfl⟩
  · cases h
theorem zip2D_len (a b : List D) : (zip2D a b).length = min a.length b.length := by simp [zip2D]
theorem zip3D_at : ∀ {a b c : List D} {i : Nat} {d : D}, (zip3D a b c)[i]? = some d → ∃ x y z, a[i]? = some x ∧ b[i]? = some y ∧ c[i]? = some z ∧ d = .tup [x, y, z]
  | x :: a, y :: b, z :: c, 0, d, h => by
    have h' : some (D.tup [x, y, z]) = some d := h
    cases h'
    exact ⟨x, y, z, rfl, rfl, rfl, rfl⟩
  | x :: a, y :: b, z :: c, i + 1, d, h => by
    have h' : (zip3D a b c)[i]? = some d := h
    obtain ⟨x', y', z', q1, q2, q3, q⟩ := zip3D_at h'
    exact ⟨x', y', z', q1, q2, q3, q⟩
  | [], _, _, _, _, h => by unfold zip3D at h; cases h
  | _ :: _, [], _, _, _, h => by unfold zip3D at h; cases h
  | _ :: _, _ :: _, [], _, _, h => by unfold zip3D at h; cases h
theorem zip3D_len : ∀ (a b c : List D), (zip3D a b c).length = min (min a.length b.length) c.length
  | x :: a, y :: b, z :: c => by
    have := zip3D_len a b c
    unfold zip3D
    simp only [List.length_cons]
    omega
  | [], _, _ => by unfold zip3D; simp
  | _ :: _, [], _ => by unfold zip3D; simp
  | _ :: _, _ :: _, [] => by unfold zip3D; simp
theorem enumD_at : ∀ {a : List D} {n i : Nat} {d : D}, (enumD n a)[i]? = some d → ∃ x, a[i]? = some x ∧ d = .tup [.int ((n + i : Nat) : Int), x]
  | x :: a, n, 0, d, h => by
    have h' : some (D.tup [.int (n : Nat), x]) = some d := h
    cases h'
    exact ⟨x, rfl, rfl⟩
  | x :: a, n, i + 1, d, h => by
    have h' : (enumD (n + 1) a)[i]? = some d := h
    obtain ⟨x', q1, q⟩ := enumD_at h'
    have e : n + 1 + i = n + (i + 1) := by omega
    exact ⟨x', q1, by rw [q, e]⟩
  | [], _, _, _, h => by unfold enumD at h; cases h
theorem enumD_len : ∀ (n : Nat) (a : List D), (enumD n a).length = a.length
  | _, [] => rfl
  | n, _ :: a => by
    unfold enumD
    rw [List.length_cons, List.length_cons, enumD_len (n + 1) a]
def zpD (xs : List D) (s : Sto) : Option (List D × Option Gk) := match xs with
  | [x, y] => match itemsD x s, itemsD y s with
    | some (a, o), some (b, p) => some (zip2D a b, jnG (wkG o a ++ wkG p b))
    | _, _ => none
  | [x, y, z] => match itemsD x s, itemsD y s, itemsD z s with
    | some (a, o), some (b, p), some (c, q) => some (zip3D a b c, jnG (wkG o a ++ wkG p b ++ wkG q c))
    | _, _, _ => none
  | _ => none
def mZp (ma : MA) : MI := fun env st => (ma env st).bd fun xs s => match zpD xs s with
  | some l => .ok l s
  | none => .bad
def enD (xs : List D) (s : Sto) : Option (List D × Option Gk) := match xs with
  | [x] => match itemsD x s with
    | some (a, o) => some (enumD 0 a, jnG (wkG o a))
    | _ => none
  | _ => none
def mEn (ma : MA) : MI := fun env st => (ma env st).bd fun xs s => match enD xs s with
  | some l => .ok l s
  | none => .bad
section
variable {X : Cx} {er : List Expr} {e : Expr} {ma : MA} {p pos tpos : Pos} {elts : List Expr} {kk : Nat}
theorem si_zip (hg : Gl X "zip") (hm : X.mg "zip" = none) (hp : (e :: er).all plainArg = true) (h : SA X (e :: er) ma) : SI X (.Tuple elts kk tpos) (.Call (.Name "zip" p) (e :: er) [] pos) (mZp ma) := fun ξ ρ H σ env st Z e0 hr w => by
  rw [List.all_cons, Bool.and_eq_true] at hp
  refine (pi_zipK hg hm pa_ra (star_cons hp.1) (star_any hp.2)).ri (h ξ ρ H σ env st _ e0 hr (R.wp_mono (R.wp_bd.mp w) fun xs s w1 ρ1 H1 vs x1 h1 r1 hl => ?_))
  cases q : zpD xs s with
  | none => rw [q] at w1; exact w1.elim
  | some l =>
    rw [q] at w1
    have w2 := fun J (hJ : Itok (X.kx ξ) ρ1 H1 J l.1 l.2) => w1 ρ1 H1 J x1 h1 hJ
    unfold zpD at q
    split at q
    · rename_i x y
      split at q
      · rename_i a oa b ob ha hb
        cases q
        obtain ⟨v1, v2, rfl, ra, rb⟩ := r1.two
        obtain ⟨k1, rfl, l1, ⟨vs1, s1⟩, f1⟩ := knd_of h1 ra ha
        obtain ⟨k2, rfl, l2, ⟨vs2, s2⟩, f2⟩ := knd_of h1 rb hb
        refine .inl ⟨k1, k2, vs1, vs2, rfl, s1, s2, w2 _ ⟨by show (zip2D a b).length ≤ _; rw [zip2D_len]; exact Nat.le_trans (Nat.min_le_left _ _) l1, ?_, ?_⟩⟩
        · intro K' ρ2 H2 st2 x m hr2 g i d hd
          have gg := jnG_ok g
          obtain ⟨d1, d2, e1, e2, rfl⟩ := zip2D_at hd
          obtain ⟨us1, c1, c2⟩ := f1 K' ρ2 H2 st2 x m hr2 fun p hp => gg p (List.mem_append_left _ hp)
          obtain ⟨us2, c3, c4⟩ := f2 K' ρ2 H2 st2 x m hr2 fun p hp => gg p (List.mem_append_right _ hp)
          obtain ⟨y1, z1, z2⟩ := c2.get e1
          obtain ⟨y2, z3, z4⟩ := c4.get e2
          refine ⟨⟨_, _, y1, y2, c1, c3, z1, z3⟩, ?_⟩
          rintro v H3 ⟨T, t1, t2, rfl, hT, rfl, g1, g2⟩
          have e3 := g1 _ c1
          have e4 := g2 _ c3
          rw [z1] at e3
          rw [z3] at e4
          cases e3
          cases e4
          exact rp_pair hr2 hT (by show 2 ≤ sizeLine; decide) (.cons z2 (.cons z4 .nil))
        · intro K' ρ2 H2 st2 x m hr2 g i hi
          have gg := jnG_ok g
          obtain ⟨us1, c1, c2⟩ := f1 K' ρ2 H2 st2 x m hr2 fun p hp => gg p (List.mem_append_left _ hp)
          obtain ⟨us2, c3, c4⟩ := f2 K' ρ2 H2 st2 x m hr2 fun p hp => gg p (List.mem_append_right _ hp)
          have hi' : i = (zip2D a b).length := hi
          exact ⟨_, _, c1, c3, by rw [hi', zip2D_len, c2.length, c4.length]⟩
      · cases q
    · rename_i x y z
      split at q
      · rename_i a oa b ob c oc ha hb hc
        cases q
        obtain ⟨v1, vr, rfl, ra, rr⟩ : ∃ v1 vr, vs = v1 :: vr ∧ Rp (X.kx ξ) ρ1 H1 v1 x ∧ Rps (X.kx ξ) ρ1 H1 vr [y, z] := by
          cases r1 with
          | cons h1 h2 => exact ⟨_, _, rfl, h1, h2⟩
        obtain ⟨v2, v3, rfl, rb, rc⟩ := rr.two
        obtain ⟨k1, rfl, l1, ⟨vs1, s1⟩, f1⟩ := knd_of h1 ra ha
        obtain ⟨k2, rfl, l2, ⟨vs2, s2⟩, f2⟩ := knd_of h1 rb hb
        obtain ⟨k3, rfl, l3, ⟨vs3, s3⟩, f3⟩ := knd_of h1 rc hc
        refine .inr ⟨k1, k2, k3, vs1, vs2, vs3, rfl, s1, s2, s3, w2 _ ⟨by show (zip3D a b c).length ≤ _; rw [zip3D_len]; exact Nat.le_trans (Nat.min_le_right _ _) l3, ?_, ?_⟩⟩
        · intro K' ρ2 H2 st2 x m hr2 g i d hd
          have gg := jnG_ok g
          obtain ⟨d1, d2, d3, e1, e2, e5, rfl⟩ := zip3D_at hd
          obtain ⟨us1, c1, c2⟩ := f1 K' ρ2 H2 st2 x m hr2 fun p hp => gg p (List.mem_append_left _ (List.mem_append_left _ hp))
          obtain ⟨us2, c3, c4⟩ := f2 K' ρ2 H2 st2 x m hr2 fun p hp => gg p (List.mem_append_left _ (List.mem_append_right _ hp))
          obtain ⟨us3, c5, c6⟩ := f3 K' ρ2 H2 st2 x m hr2 fun p hp => gg p (List.mem_append_right _ hp)
          obtain ⟨y1, z1, z2⟩ := c2.get e1
          obtain ⟨y2, z3, z4⟩ := c4.get e2
          obtain ⟨y3, z5, z6⟩ := c6.get e5
          refine ⟨⟨_, _, _, y1, y2, y3, c1, c3, c5, z1, z3, z5⟩, ?_⟩
          rintro v H3 ⟨T, t1, t2, t3, rfl, hT, rfl, g1, g2, g3⟩
          have e3 := g1 _ c1
          have e4 := g2 _ c3
          have e6 := g3 _ c5
          rw [z1] at e3
          rw [z3] at e4
          rw [z5] at e6
          cases e3
          cases e4
          cases e6
          exact rp_pair hr2 hT (by show 3 ≤ sizeLine; decide) (.cons z2 (.cons z4 (.cons z6 .nil)))
        · intro K' ρ2 H2 st2 x m hr2 g i hi
          have gg := jnG_ok g
          obtain ⟨us1, c1, c2⟩ := f1 K' ρ2 H2 st2 x m hr2 fun p hp => gg p (List.mem_append_left _ (List.mem_append_left _ hp))
          obtain ⟨us2, c3, c4⟩ := f2 K' ρ2 H2 st2 x m hr2 fun p hp => gg p (List.mem_append_left _ (List.mem_append_right _ hp))
          obtain ⟨us3, c5, c6⟩ := f3 K' ρ2 H2 st2 x m hr2 fun p hp => gg p (List.mem_append_right _ hp)
          have hi' : i = (zip3D a b c).length := hi
          exact ⟨_, _, _, c1, c3, c5, by rw [hi', zip3D_len, c2.length, c4.length, c6.length]⟩
      · cases q
    · cases q
theorem si_enum (hg : Gl X "enumerate") (hm : X.mg "enumerate" = none) (hp : (e :: er).all plainArg = true) (h : SA X (e :: er) ma) : SI X (.Tuple elts kk tpos) (.Call (.Name "enumerate" p) (e :: er) [] pos) (mEn ma) := fun ξ ρ H σ env st Z e0 hr w => by
  rw [List.all_cons, Bool.and_eq_true] at hp
  refine (pi_enumK hg hm pa_ra (star_cons hp.1) (star_any hp.2)).ri (h ξ ρ H σ env st _ e0 hr (R.wp_mono (R.wp_bd.mp w) fun xs s w1 ρ1 H1 vs x1 h1 r1 hl => ?_))
  cases q : enD xs s with
  | none => rw [q] at w1; exact w1.elim
  | some l =>
    rw [q] at w1
    have w2 := fun J (hJ : Itok (X.kx ξ) ρ1 H1 J l.1 l.2) => w1 ρ1 H1 J x1 h1 hJ
    unfold enD at q
    split at q
    · rename_i x
      split at q
      · rename_i a oa ha
        cases q
        obtain ⟨v1, rfl, ra⟩ := r1.one
        obtain ⟨k1, rfl, l1, ⟨vs1, s1⟩, f1⟩ := knd_of h1 ra ha
        refine ⟨k1, vs1, rfl, s1, w2 _ ⟨by show (enumD 0 a).length ≤ _; rw [enumD_len]; exact l1, ?_, ?_⟩⟩
        · intro K' ρ2 H2 st2 x m hr2 g i d hd
          obtain ⟨d1, e1, rfl⟩ := enumD_at hd
          obtain ⟨us1, c1, c2⟩ := f1 K' ρ2 H2 st2 x m hr2 (jnG_ok g)
          obtain ⟨y1, z1, z2⟩ := c2.get e1
          refine ⟨⟨_, y1, c1, z1⟩, ?_⟩
          rintro v H3 ⟨T, t1, rfl, hT, rfl, g1⟩
          have e3 := g1 _ c1
          rw [z1] at e3
          cases e3
          rw [Nat.zero_add]
          exact rp_pair hr2 hT (by show 2 ≤ sizeLine; decide) (.cons (.int _) (.cons z2 .nil))
        · intro K' ρ2 H2 st2 x m hr2 g i hi
          obtain ⟨us1, c1, c2⟩ := f1 K' ρ2 H2 st2 x m hr2 (jnG_ok g)
          have hi' : i = (enumD 0 a).length := hi
          exact ⟨_, c1, by rw [hi', enumD_len, c2.length]⟩
      · cases q
    · cases q
end
end Rf
set_option maxHeartbeats 4000000
namespace Rf
open PySem PySem.Spec L2
open PyProof.Rows hiding St
/-! ## targets -/
abbrev MG := D → Ev → Sto → R Ev
abbrev MGs := List D → Ev → Sto → R Ev
def SG (X : Cx) (tg : Expr) (sl : List Nat) (m : MG) : Prop := ∀ (ξ ρ : List Addr) (H : Hp) (σ : L2.St) (env : Ev) (st : Sto) (v : V) (d : D) (Z : L2.St → Hp → Prop), Er (X.kx ξ) ρ H σ env → Hr (X.kx ξ) ρ H st → Rp (X.kx ξ) ρ H v d →
  (m d env st).wp (fun env' st' => ∀ ρ' H' σ', Xt ρ H ρ' H' → Hr (X.kx ξ) ρ' H' st' → Er (X.kx ξ) ρ' H' σ' env' → (σ'.length = σ.length ∧ ∀ i, i ∉ sl → σ'[i]? = σ[i]?) → Z σ' H') → RG X tg v σ H Z
def SGs (X : Cx) (ts : List Expr) (sl : List Nat) (m : MGs) : Prop := ∀ (ξ ρ : List Addr) (H : Hp) (σ : L2.St) (env : Ev) (st : Sto) (vs : List V) (ds : List D) (Z : L2.St → Hp → Prop), Er (X.kx ξ) ρ H σ env → Hr (X.kx ξ) ρ H st → Rps (X.kx ξ) ρ H vs ds →
  (m ds env st).wp (fun env' st' => ∀ ρ' H' σ', Xt ρ H ρ' H' → Hr (X.kx ξ) ρ' H' st' → Er (X.kx ξ) ρ' H' σ' env' → (σ'.length = σ.length ∧ ∀ i, i ∉ sl → σ'[i]? = σ[i]?) → Z σ' H') → RGs X ts vs σ H Z
def gNm (i : Nat) : MG := fun d env st => .ok (env.set i (some d)) st
def gNil : MGs := fun ds env st => match ds with
  | [] => .ok env st
  | _ => .bad
def gCons (m : MG) (r : MGs) : MGs := fun ds env st => match ds with
  | d :: ds => (m d env st).bd fun e s => r ds e s
  | [] => .bad
def gTp (n : Nat) (ms : MGs) : MG := fun d env st => match d with
  | .tup ds => if ds.length = n then ms ds env st else .bad
  | _ => .bad
/-- o[i] = d -/
def setIx (x y d : D) (s : Sto) : Option Sto := match x, y with
  | .ref n, .int k => match s[n]? with
    | some (.lst ds) => match ixN ds.length k with
      | some j => some (s.set n (.lst (ds.set j d)))
      | none => none
    | _ => none
  | _, _ => none
def gSub (o i : ME) : MG := fun d env st => (o env st).bd fun x s => (i env s).bd fun y s2 => match setIx x y d s2 with
  | some s3 => .ok env s3
  | none => .bad
section
variable {X : Cx} {c : Ci}
theorem sg_name {i : Nat} {x : Str} {pos : Pos} (g : Gd X c) (hi : c.N[i]? = some x) (hx : Loc c.sc x) (hs : x ∈ c.sb) : SG X (.Name x pos) [i] (gNm i) := fun ξ ρ H σ env st v d Z e0 hr r w => by
  refine (pg_name (by rw [g.hN]; exact g.nd) (by rw [g.hN]; exact hi) (by rw [g.hsc]; exact hx) (g.hst x hs)).rg ?_
  exact w ρ H _ (.refl _ _) hr (e0.set r) ⟨by simp, fun j hj => List.getElem?_set_ne (fun z => hj (by simp [z]))⟩
theorem sgs_nil : SGs X [] [] gNil := fun ξ ρ H σ env st vs ds Z e0 hr r w => by
  refine pgs_nil.rgs ?_
  cases r with
  | nil => exact ⟨rfl, w ρ H _ (.refl _ _) hr e0 ⟨rfl, fun _ _ => rfl⟩⟩
  | cons => exact w.elim
theorem each_cons {e : Expr} {es : List Expr} {env : Env} (h : plainArg e = true) : assignEach (e :: es) env = (false, assign e env) :: assignEach es env := by cases e <;> first | rfl | exact nomatch h
theorem each_len {env : Env} : ∀ {es : List Expr}, (assignEach es env).length = es.length
  | [] => rfl
  | e :: es => by cases e <;> exact congrArg (· + 1) (each_len (es := es))
theorem each_none {env : Env} : ∀ {es : List Expr}, es.all plainArg = true → (assignEach es env).findIdx? (·.1) = none
  | [], _ => rfl
  | e :: es, h => by
    rw [List.all_cons, Bool.and_eq_true] at h
    rw [each_cons h.1, List.findIdx?_cons]
    have := each_none (es := es) (env := env) h.2
    simp [this]
theorem sgs_cons {e : Expr} {es : List Expr} {sl sl' : List Nat} {m : MG} {ms : MGs} (hp : plainArg e = true) (h : SG X e sl m) (hs : SGs X es sl' ms) : SGs X (e :: es) (sl ++ sl') (gCons m ms) := fun ξ ρ H σ env st vs ds Z e0 hr r w => by
  refine (pgs_cons pg_rg pgs_rgs (by rw [each_cons hp]; rfl)).rgs ?_
  cases r with
  | nil => exact w.elim
  | cons r1 r2 =>
    rename_i v vs d ds
    refine ⟨v, vs, rfl, h ξ ρ H σ env st v d _ e0 hr r1 (R.wp_mono (R.wp_bd.mp w) fun env1 s1 w1 ρ1 H1 σ1 x1 h1 e1 k1 => ?_)⟩
    refine hs ξ ρ1 H1 σ1 env1 s1 vs ds _ e1 h1 (Rps.xt x1 _ _ r2) (R.wp_mono w1 fun env2 s2 w2 ρ2 H2 σ2 x2 h2 e2 k2 => ?_)
    exact w2 ρ2 H2 σ2 (x1.trans x2) h2 e2 ⟨k2.1.trans k1.1, fun i hi => (k2.2 i fun z => hi (List.mem_append_right _ z)).trans (k1.2 i fun z => hi (List.mem_append_left _ z))⟩
theorem sg_tup {es : List Expr} {k : Nat} {pos : Pos} {sl : List Nat} {ms : MGs} (g : Gd X c) (hp : es.all plainArg = true) (h : SGs X es sl ms) : SG X (.Tuple es k pos) sl (gTp es.length ms) := fun ξ ρ H σ env st v d Z e0 hr r w => by
  refine (pg_tup g.calm pgs_rgs each_len (each_none hp)).rg ?_
  cases r with
  | tup f z q =>
    rename_i a xs ds
    have w' : (if ds.length = es.length then ms ds env st else .bad).wp _ := w
    by_cases hl : ds.length = es.length
    · rw [if_pos hl] at w'
      exact ⟨a, xs, rfl, f.sq, by rw [q.length, hl], h ξ ρ H σ env st xs ds Z e0 hr q w'⟩
    · rw [if_neg hl] at w'
      exact w'.elim
  | _ => exact w.elim
def notSlice : Expr → Bool
  | .Slice .. => false
  | _ => true
theorem setIx_ok {K : Kx} {ρ : List Addr} {H : Hp} {v u z : V} {x y d : D} {s s' : Sto} (hr : Hr K ρ H s) (r1 : Rp K ρ H v x) (r2 : Rp K ρ H u y) (r3 : Rp K ρ H z d) (h : setIx x y d s = some s') : ∃ p xs k j, v = .ref p ∧ u = .int k ∧ H p = some (.lst xs) ∧ ixN xs.length k = some j ∧
    Hr K ρ (upd H p (.lst (xs.set j z))) s' ∧ Xt ρ H ρ (upd H p (.lst (xs.set j z))) := by
  cases r1 with
  | ref hn =>
    rename_i a n
    cases r2 with
    | int k =>
      have h' : (match s[n]? with | some (.lst ds) => (match ixN ds.length k with | some j => some (s.set n (.lst (ds.set j d))) | none => none) | _ => none) = some s' := h
      cases e : s[n]? with
      | none => rw [e] at h'; cases h'
      | some o =>
        rw [e] at h'
        cases o with
        | lst ds =>
          have h2 : (match ixN ds.length k with | some j => some (s.set n (.lst (ds.set j d))) | none => none) = some s' := h'
          cases e2 : ixN ds.length k with
          | none => rw [e2] at h2; cases h2
          | some j =>
            rw [e2] at h2
            cases h2
            obtain ⟨xs, q1, q2, q3⟩ := hr.ob n a _ hn e
            obtain ⟨p1, p2⟩ := hr.put (o := .lst (ds.set j d)) (u := .lst (xs.set j z)) hn fun ρ' H' x' e' => ⟨xs.set j z, e', by simpa using q2, Rps.xt x' _ _ (q3.set r3 j)⟩
            exact ⟨a, xs, k, j, rfl, rfl, q1, by rw [q3.length]; exact e2, p1, p2⟩
        | dct => cases h'
        | ins => cases h'
    | _ => cases h
  | _ => cases r2 <;> cases h
theorem sg_sub {o i : Expr} {mo mi : ME} {pos : Pos} (hi : notSlice i = true) (ho : SE X o mo) (hx : SE X i mi) : SG X (.Subscript o i pos) [] (gSub mo mi) := fun ξ ρ H σ env st v d Z e0 hr r w => by
  refine (pg_sub pe_re pe_re set_list (by intro v; cases i <;> first | rfl | exact nomatch hi)).rg ?_
  refine ho ξ ρ H σ env st _ e0 hr (R.wp_mono (R.wp_bd.mp w) fun x s w1 ρ1 H1 v1 x1 h1 r1 => ?_)
  refine hx ξ ρ1 H1 σ env s _ (e0.xt x1) h1 (R.wp_mono (R.wp_bd.mp w1) fun y s2 w2 ρ2 H2 v2 x2 h2 r2 => ?_)
  cases e : setIx x y d s2 with
  | none => rw [e] at w2; exact w2.elim
  | some s3 =>
    rw [e] at w2
    obtain ⟨p, xs, k, j, rfl, rfl, q1, q2, q3, q4⟩ := setIx_ok h2 (r1.xt x2) r2 (r.xt (x1.trans x2)) e
    exact ⟨p, xs, k, j, rfl, rfl, q1, q2, w2 ρ2 _ σ ((x1.trans x2).trans q4) q3 (e0.xt ((x1.trans x2).trans q4)) ⟨rfl, fun _ _ => rfl⟩⟩
end
/-! ## statements -/
def FlP (X : Cx) (ξ ρ : List Addr) (H : Hp) (E : Ends) (fl : Fl) (st' : Sto) : Prop := match fl with
  | .nx e => ∀ ρ' H' σ', Xt ρ H ρ' H' → Hr (X.kx ξ) ρ' H' st' → Er (X.kx ξ) ρ' H' σ' e → E.nx σ' H'
  | .bk e => ∀ ρ' H' σ', Xt ρ H ρ' H' → Hr (X.kx ξ) ρ' H' st' → Er (X.kx ξ) ρ' H' σ' e → E.bk σ' H'
  | .ct e => ∀ ρ' H' σ', Xt ρ H ρ' H' → Hr (X.kx ξ) ρ' H' st' → Er (X.kx ξ) ρ' H' σ' e → E.ct σ' H'
  | .rt d => ∀ ρ' H' v, Xt ρ H ρ' H' → Hr (X.kx ξ) ρ' H' st' → Rp (X.kx ξ) ρ' H' v d → E.rt v H'
theorem FlP.xt {X : Cx} {ξ ρ ρ1 : List Addr} {H H1 : Hp} {E : Ends} {fl : Fl} {s : Sto} (h : FlP X ξ ρ H E fl s) (x : Xt ρ H ρ1 H1) : FlP X ξ ρ1 H1 E fl s := by
  cases fl with
  | nx e => exact fun ρ' H' σ' x' => h ρ' H' σ' (x.trans x')
  | bk e => exact fun ρ' H' σ' x' => h ρ' H' σ' (x.trans x')
  | ct e => exact fun ρ' H' σ' x' => h ρ' H' σ' (x.trans x')
  | rt d => exact fun ρ' H' v x' => h ρ' H' v (x.trans x')
def SX (X : Cx) (st : Stmt) (m : MS) : Prop := ∀ (ξ ρ : List Addr) (H : Hp) (σ : L2.St) (env : Ev) (s : Sto) (E : Ends), Er (X.kx ξ) ρ H σ env → Hr (X.kx ξ) ρ H s → (m env s).wp (FlP X ξ ρ H E) → RX X st E σ H
def SS (X : Cx) (st : List Stmt) (m : MS) : Prop := ∀ (ξ ρ : List Addr) (H : Hp) (σ : L2.St) (env : Ev) (s : Sto) (E : Ends), Er (X.kx ξ) ρ H σ env → Hr (X.kx ξ) ρ H s → (m env s).wp (FlP X ξ ρ H E) → RS X st E σ H
def mPass : MS := fun env st => .ok (.nx env) st
def mBrk : MS := fun env st => .ok (.bk env) st
def mCnt : MS := fun env st => .ok (.ct env) st
def mBad : MS := fun _ _ => .bad
def mExp (a : ME) : MS := fun env st => (a env st).bd fun _ s => .ok (.nx env) s
def mRet (a : ME) : MS := fun env st => (a env st).bd fun d s => .ok (.rt d) s
def mRetN : MS := fun _ st => .ok (.rt .non) st
def mAsg (g : MG) (a : ME) : MS := fun env st => (a env st).bd fun d s => (g d env s).bd fun e s' => .ok (.nx e) s'
def mSeq (a b : MS) : MS := fun env st => (a env st).bd fun f s => match f with
  | .nx e => b e s
  | f => .ok f s
def mIfS (c : MT) (a b : MS) : MS := fun env st => (c env st).bd fun k s => if k then a env s else b env s
section
variable {X : Cx} {c : Ci} {pos : Pos} {st : Stmt} {rest : List Stmt} {ma mb : MS}
theorem ss_nil : SS X [] mPass := fun ξ ρ H σ env s E e0 hr w => pss_nil.rs (w ρ H σ (.refl _ _) hr e0)
theorem ss_one (h : SX X st ma) : SS X [st] ma := fun ξ ρ H σ env s E e0 hr w => (pss_one ps_rx).rs (h ξ ρ H σ env s E e0 hr w)
theorem ss_cons (h : SX X st ma) (hs : SS X rest mb) : SS X (st :: rest) (mSeq ma mb) := fun ξ ρ H σ env s E e0 hr w => by
  refine (pss_cons ps_rx pss_rs).rs ?_
  refine h ξ ρ H σ env s { E with nx := RS X rest E } e0 hr (R.wp_mono (R.wp_bd.mp w) fun f s1 w1 => ?_)
  cases f with
  | nx e => exact fun ρ1 H1 σ1 x1 h1 e1 => hs ξ ρ1 H1 σ1 e s1 E e1 h1 (R.wp_mono w1 fun fl s2 q => q.xt x1)
  | bk e => exact w1
  | ct e => exact w1
  | rt d => exact w1
theorem sx_pass : SX X (.Pass pos) mPass := fun ξ ρ H σ env s E e0 hr w => ps_pass.rx (w ρ H σ (.refl _ _) hr e0)
theorem sx_brk : SX X (.Break pos) mBrk := fun ξ ρ H σ env s E e0 hr w => ps_break.rx (w ρ H σ (.refl _ _) hr e0)
theorem sx_cnt : SX X (.Continue pos) mCnt := fun ξ ρ H σ env s E e0 hr w => ps_continue.rx (w ρ H σ (.refl _ _) hr e0)
theorem sx_bad : SX X st mBad := fun ξ ρ H σ env s E e0 hr w => w.elim
/-- no comprehension -/
def noComp : Expr → Bool
  | .ListComp .. => false
  | .SetComp .. => false
  | .DictComp .. => false
  | _ => true
theorem swaps_no {e : Expr} {t : Option Expr} {l : Nat} {env : Env} (h : noComp e = true) : swapsWith e t l env = pure false := by cases e <;> first | rfl | exact nomatch h
theorem sx_exp {e : Expr} {m : ME} (hn : noComp e = true) (h : SE X e m) : SX X (.Expr e pos) (mExp m) := fun ξ ρ H σ env s E e0 hr w =>
  (ps_expr pe_re (swaps_no hn)).rx (h ξ ρ H σ env s _ e0 hr (R.wp_mono (R.wp_bd.mp w) fun d s1 w1 ρ1 H1 v x1 h1 r1 => w1 ρ1 H1 σ x1 h1 (e0.xt x1)))
theorem sx_ret {e : Expr} {m : ME} (h : SE X e m) : SX X (.Return (some e) pos) (mRet m) := fun ξ ρ H σ env s E e0 hr w =>
  (ps_ret pe_re).rx (h ξ ρ H σ env s _ e0 hr (R.wp_mono (R.wp_bd.mp w) fun d s1 w1 ρ1 H1 v x1 h1 r1 => w1 ρ1 H1 v x1 h1 r1))
theorem sx_retN : SX X (.Return none pos) mRetN := fun ξ ρ H σ env s E e0 hr w => ps_retN.rx (w ρ H .non (.refl _ _) hr .non)
theorem sx_if {t : Expr} {a b : List Stmt} {mt : MT} (ht : ST X t mt) (ha : SS X a ma) (hb : SS X b mb) : SX X (.If t a b pos) (mIfS mt ma mb) := fun ξ ρ H σ env s E e0 hr w => by
  refine (ps_if pt_rt pss_rs pss_rs).rx (ht ξ ρ H σ env s _ e0 hr (R.wp_mono (R.wp_bd.mp w) fun k s1 w1 ρ1 H1 x1 h1 => ?_))
  cases k with
  | true => exact iteT (ha ξ ρ1 H1 σ env s1 E (e0.xt x1) h1 (R.wp_mono w1 fun fl s2 q => q.xt x1))
  | false => exact iteF (hb ξ ρ1 H1 σ env s1 E (e0.xt x1) h1 (R.wp_mono w1 fun fl s2 q => q.xt x1))
/-- target = value, the plain way -/
theorem sx_asg {t e : Expr} {sl : List Nat} {g : MG} {m : ME} (hn : noComp e = true) (hs : swappedStores [t] e X.env = pure none) (hp : plainArg t = true) (hg : SG X t sl g) (h : SE X e m) : SX X (.Assign [t] e pos) (mAsg g m) := fun ξ ρ H σ env s E e0 hr w => by
  refine (ps_asg pe_re pg_rg (swaps_no hn) hs (by rw [each_cons hp]; rfl)).rx ?_
  refine h ξ ρ H σ env s _ e0 hr (R.wp_mono (R.wp_bd.mp w) fun d s1 w1 ρ1 H1 v x1 h1 r1 => ?_)
  exact hg ξ ρ1 H1 σ env s1 v d E.nx (e0.xt x1) h1 r1 (R.wp_mono (R.wp_bd.mp w1) fun env2 s2 w2 ρ2 H2 σ2 x2 h2 e2 _ => w2 ρ2 H2 σ2 (x1.trans x2) h2 e2)
/-- name = value -/
theorem sx_set {i : Nat} {x : Str} {e : Expr} {m : ME} {pos' : Pos} (g : Gd X c) (hi : c.N[i]? = some x) (hx : Loc c.sc x) (hs : x ∈ c.sb) (hw : swapsWith e (some (.Name x pos')) pos.line X.env = pure false) (h : SE X e m) : SX X (.Assign [.Name x pos'] e pos) (mAsg (gNm i) m) := fun ξ ρ H σ env s E e0 hr w => by
  refine (ps_set (by rw [g.hN]; exact g.nd) (by rw [g.hN]; exact hi) (by rw [g.hsc]; exact hx) pe_re hw (g.hst x hs)).rx ?_
  exact h ξ ρ H σ env s _ e0 hr (R.wp_mono (R.wp_bd.mp w) fun d s1 w1 ρ1 H1 v x1 h1 r1 => w1 ρ1 H1 _ x1 h1 ((e0.xt x1).set r1))
end
/-! ### while -/
def whl (c : MT) (b : MS) : Nat → Ev → Sto → R Fl
  | 0, _, _ => .bad
  | n + 1, env, st => (c env st).bd fun k s => if k then (b env s).bd fun f s2 => match f with
      | .nx e => whl c b n e s2
      | .ct e => whl c b n e s2
      | .bk e => .ok (.nx e) s2
      | .rt d => .ok (.rt d) s2
    else .ok (.nx env) s
def mWhl (n : Nat) (c : MT) (b : MS) : MS := fun env st => whl c b n env st
section
variable {X : Cx} {c : Ci} {pos : Pos}
theorem Gd.pass (g : Gd X c) : PassesOwn (model X.prog X.w) X.A X.env X.xe := by rw [g.xe]; exact PassesOwn.never
theorem sx_while {t : Expr} {b : List Stmt} {mt : MT} {mb : MS} {n : Nat} (g : Gd X c) (ht : ST X t mt) (hb : SS X b mb) : SX X (.While t b [] pos) (mWhl n mt mb) := fun ξ ρ H σ env s E e0 hr w => by
  refine (ps_while g.pass pt_rt pss_rs).rx ?_
  refine ⟨fun m σ' H' => ∃ ρ' env' s', Xt ρ H ρ' H' ∧ Hr (X.kx ξ) ρ' H' s' ∧ Er (X.kx ξ) ρ' H' σ' env' ∧ (whl mt mb m env' s').wp (FlP X ξ ρ H E), ⟨n, ρ, env, s, .refl _ _, hr, e0, w⟩, ?_⟩
  rintro m σ1 H1 ⟨ρ1, env1, s1, x1, h1, e1, w1⟩
  cases m with
  | zero => exact w1.elim
  | succ m =>
    refine ht ξ ρ1 H1 σ1 env1 s1 _ e1 h1 (R.wp_mono (R.wp_bd.mp w1) fun k s2 w2 ρ2 H2 x2 h2 => ?_)
    cases k with
    | false => exact iteF (w2 ρ2 H2 σ1 (x1.trans x2) h2 (e1.xt x2))
    | true =>
      refine iteT ⟨fun σ' H' => ∃ ρ' env' s', Xt ρ H ρ' H' ∧ Hr (X.kx ξ) ρ' H' s' ∧ Er (X.kx ξ) ρ' H' σ' env' ∧ (whl mt mb m env' s').wp (FlP X ξ ρ H E), fun σ' H' q => ⟨m, Nat.lt_succ_self m, q⟩, ?_⟩
      refine hb ξ ρ2 H2 σ1 env1 s2 _ (e1.xt x2) h2 (R.wp_mono (R.wp_bd.mp w2) fun f s3 w3 => ?_)
      cases f with
      | nx e => exact fun ρ3 H3 σ3 x3 h3 e3 => ⟨ρ3, e, s3, (x1.trans x2).trans x3, h3, e3, w3⟩
      | ct e => exact fun ρ3 H3 σ3 x3 h3 e3 => ⟨ρ3, e, s3, (x1.trans x2).trans x3, h3, e3, w3⟩
      | bk e => exact fun ρ3 H3 σ3 x3 h3 e3 => w3 ρ3 H3 σ3 ((x1.trans x2).trans x3) h3 e3
      | rt d => exact fun ρ3 H3 v x3 h3 r3 => w3 ρ3 H3 v ((x1.trans x2).trans x3) h3 r3
end
/-! ### for -/
mutual
def D.beq : D → D → Bool
  | .non, .non => true
  | .bl a, .bl b => a == b
  | .int a, .int b => a == b
  | .str a, .str b => a == b
  | .tup a, .tup b => D.beqs a b
  | .lst a, .lst b => D.beqs a b
  | .ro a, .ro b => D.beqs a b
  | .ref a, .ref b => a == b
  | _, _ => false
def D.beqs : List D → List D → Bool
  | [], [] => true
  | a :: as, b :: bs => D.beq a b && D.beqs as bs
  | _, _ => false
end
mutual
theorem D.beq_eq : ∀ (a b : D), D.beq a b = true → a = b
  | .non, b, h => by cases b <;> simp [D.beq] at h ⊢
  | .bl x, b, h => by cases b <;> simp [D.beq] at h ⊢; exact h
  | .int x, b, h => by cases b <;> simp [D.beq] at h ⊢; exact h
  | .str x, b, h => by cases b <;> simp [D.beq] at h ⊢; exact h
  | .tup x, b, h => by cases b <;> simp [D.beq] at h ⊢; exact D.beqs_eq _ _ h
  | .lst x, b, h => by cases b <;> simp [D.beq] at h ⊢; exact D.beqs_eq _ _ h
  | .ro x, b, h => by cases b <;> simp [D.beq] at h ⊢; exact D.beqs_eq _ _ h
  | .ref x, b, h => by cases b <;> simp [D.beq] at h ⊢; exact h
  | .dct x, b, h => by cases b <;> simp [D.beq] at h
  | .fn x, b, h => by cases b <;> simp [D.beq] at h
  | .err x y, b, h => by cases b <;> simp [D.beq] at h
theorem D.beqs_eq : ∀ (a b : List D), D.beqs a b = true → a = b
  | [], b, h => by cases b <;> simp [D.beqs] at h ⊢
  | x :: xs, b, h => by
    cases b with
    | nil => simp [D.beqs] at h
    | cons y ys =>
      simp [D.beqs] at h
      rw [D.beq_eq x y h.1, D.beqs_eq xs ys h.2]
end
def atB (n : Nat) (ds : List D) (st : Sto) : Bool := match st[n]? with
  | some (.lst es) => D.beqs es ds
  | _ => false
theorem atB_ok {n : Nat} {ds : List D} {st : Sto} (h : atB n ds st = true) : st[n]? = some (.lst ds) := by
  unfold atB at h
  cases e : st[n]? with
  | none => rw [e] at h; cases h
  | some u =>
    rw [e] at h
    cases u with
    | lst es => rw [D.beqs_eq es ds h]
    | dct => cases h
    | ins => cases h
def gstB (o : Option Gk) (ds : List D) (st : Sto) : Bool := match o with
  | none => true
  | some (.one n) => atB n ds st
  | some (.many l) => l.all fun p => atB p.1 p.2 st
theorem gstB_ok {o : Option Gk} {ds : List D} {st : Sto} (h : gstB o ds st = true) : gst o ds st := by
  cases o with
  | none => trivial
  | some k =>
    cases k with
    | one n => exact atB_ok h
    | many l => exact fun p hp => atB_ok (List.all_eq_true.mp h p hp)
/-- the turns that are left -/
def forL (g : MG) (b : MS) (o : Option Gk) (all : List D) : List D → Ev → Sto → R Fl
  | [], env, st => if gstB o all st then .ok (.nx env) st else .bad
  | d :: r, env, st => if gstB o all st then (g d env st).bd fun e s => (b e s).bd fun f s2 => match f with
      | .nx e => forL g b o all r e s2
      | .ct e => forL g b o all r e s2
      | .bk e => .ok (.nx e) s2
      | .rt d => .ok (.rt d) s2
    else .bad
def mFor (g : MG) (it : MI) (b : MS) : MS := fun env st => (it env st).bd fun p s => forL g b p.2 p.1 p.1 env s
def noSet : Expr → Bool
  | .Set .. => false
  | _ => true
theorem folded_no {e : Expr} (h : noSet e = true) : ∀ (env : Env) (x : Value), foldedSetIterable e env x = pure x := by
  intro env x
  cases e <;> first | rfl | exact nomatch h
section
variable {X : Cx} {c : Ci} {pos : Pos}
theorem sx_for {tg it : Expr} {b : List Stmt} {sl : List Nat} {g : MG} {mi : MI} {mb : MS} (gd : Gd X c) (hn : noSet it = true) (hg : SG X tg sl g) (hi : SI X tg it mi) (hb : SS X b mb) : SX X (.For tg it b [] pos) (mFor g mi mb) := fun ξ ρ H σ env s E e0 hr w => by
  refine (ps_for gd.pass gd.calm pi_ri pg_rg pss_rs (folded_no hn X.env)).rx ?_
  refine hi ξ ρ H σ env s _ e0 hr (R.wp_mono (R.wp_bd.mp w) fun p s1 w1 ρ1 H1 J x1 h1 J1 => ?_)
  obtain ⟨ds, o⟩ := p
  have w1' : (forL g mb o ds ds env s1).wp (FlP X ξ ρ H E) := w1
  refine ⟨fun i m σ' H' => m = ds.length - i ∧ i ≤ ds.length ∧ ∃ ρ' env' s', Xt ρ1 H1 ρ' H' ∧ Hr (X.kx ξ) ρ' H' s' ∧ Er (X.kx ξ) ρ' H' σ' env' ∧ (forL g mb o ds (ds.drop i) env' s').wp (FlP X ξ ρ H E), ⟨_, rfl, Nat.zero_le _, ρ1, env, s1, .refl _ _, h1, e0.xt x1, w1'⟩, ?_⟩
  rintro i m σ2 H2 ⟨rfl, hi3, ρ2, env2, s2, x2, h2, e2, w2⟩
  have gs : gstB o ds s2 = true := by
    cases q : gstB o ds s2 with
    | true => rfl
    | false =>
      exfalso
      cases r : ds.drop i with
      | nil => rw [r] at w2; unfold forL at w2; rw [q] at w2; exact w2
      | cons d l => rw [r] at w2; unfold forL at w2; rw [q] at w2; exact w2
  have mre : Mre (X.kx ξ) (X.kx ξ) H1 := ⟨rfl, fun a ha => .inl ha⟩
  by_cases hl : i < ds.length
  · have hd : ds.drop i = ds[i] :: ds.drop (i + 1) := List.drop_eq_getElem_cons hl
    rw [hd] at w2
    unfold forL at w2
    rw [if_pos gs] at w2
    obtain ⟨q1, q2⟩ := J1.go (X.kx ξ) ρ2 H2 s2 x2 mre h2 (gstB_ok gs) i _ (List.getElem?_eq_getElem hl)
    refine .inr ⟨q1, fun σ' H' => ∃ ρ' env' s', Xt ρ1 H1 ρ' H' ∧ Hr (X.kx ξ) ρ' H' s' ∧ Er (X.kx ξ) ρ' H' σ' env' ∧ (forL g mb o ds (ds.drop (i + 1)) env' s').wp (FlP X ξ ρ H E), fun σ' H' q => ⟨ds.length - (i + 1), by omega, rfl, hl, q⟩, fun x H3 y => ?_⟩
    obtain ⟨sm, rx⟩ := q2 x H3 y
    refine hg ξ ρ2 H3 σ2 env2 s2 x _ _ (e2.xt (.same sm)) (h2.same sm) rx (R.wp_mono (R.wp_bd.mp w2) fun env4 s4 w4 ρ4 H4 σ4 x4 h4 e4 _ => ?_)
    refine hb ξ ρ4 H4 σ4 env4 s4 _ e4 h4 (R.wp_mono (R.wp_bd.mp w4) fun f s5 w5 => ?_)
    have xx : Xt ρ1 H1 ρ4 H4 := (x2.trans (.same sm)).trans x4
    cases f with
    | nx e => exact fun ρ5 H5 σ5 x5 h5 e5 => ⟨ρ5, e, s5, xx.trans x5, h5, e5, w5⟩
    | ct e => exact fun ρ5 H5 σ5 x5 h5 e5 => ⟨ρ5, e, s5, xx.trans x5, h5, e5, w5⟩
    | bk e => exact fun ρ5 H5 σ5 x5 h5 e5 => w5 ρ5 H5 σ5 ((x1.trans xx).trans x5) h5 e5
    | rt d => exact fun ρ5 H5 v x5 h5 r5 => w5 ρ5 H5 v ((x1.trans xx).trans x5) h5 r5
  · have hd : ds.drop i = [] := List.drop_eq_nil_of_le (by omega)
    rw [hd] at w2
    unfold forL at w2
    rw [if_pos gs] at w2
    exact .inl ⟨J1.stop (X.kx ξ) ρ2 H2 s2 x2 mre h2 (gstB_ok gs) i (show i = ds.length by omega), w2 ρ2 H2 σ2 (x1.trans x2) h2 e2⟩
end
end Rf
set_option maxHeartbeats 4000000
namespace Rf
open PySem PySem.Spec L2
open PyProof.Rows hiding St
/-! ## comprehensions -/
def RTs (X : Cx) (ifs : List Expr) : TT := fun σ H Q => ∀ (pins : List (Addr × Obj)) (s : Shared), Inv X pins σ H s →
  wpAny (model X.prog X.w) X.A (forIn ifs true fun c r => if r = true then do let ok ← isTrue c X.env (eval c X.env); pure (ForInStep.yield ok) else pure (ForInStep.yield r)) (TP X pins σ Q) X.xe s
theorem pts_rts {X : Cx} {ifs : List Expr} : PTs X ifs (RTs X ifs) := ⟨fun pins s _ _ _ I h => h pins s I⟩
def STs (X : Cx) (ifs : List Expr) (m : MT) : Prop := ∀ (ξ ρ : List Addr) (H : Hp) (σ : L2.St) (env : Ev) (st : Sto) (Q : Bool → Hp → Prop), Er (X.kx ξ) ρ H σ env → Hr (X.kx ξ) ρ H st →
  (m env st).wp (fun b st' => ∀ ρ' H', Xt ρ H ρ' H' → Hr (X.kx ξ) ρ' H' st' → Q b H') → RTs X ifs σ H Q
def mYes : MT := fun _ st => .ok true st
theorem sts_nil {X : Cx} : STs X [] mYes := fun ξ ρ H σ env st Q e0 hr w pins s I => pts_nil.run pins s σ H Q I (w ρ H (.refl _ _) hr)
theorem sts_one {X : Cx} {e : Expr} {m : MT} (h : ST X e m) : STs X [e] m := fun ξ ρ H σ env st Q e0 hr w pins s I => (pts_one pt_rt).run pins s σ H Q I (h ξ ρ H σ env st Q e0 hr w)
def lcL (vs : List Nat) (g : MG) (mt : MT) (me : ME) (o : Option Gk) (all : List D) (env : Ev) : List D → Sto → List D → R (List D)
  | [], st, acc => if gstB o all st then .ok acc st else .bad
  | d :: r, st, acc => if gstB o all st then (g d (wipeE env vs) st).bd fun e s => (mt e s).bd fun k s2 => if k then (me e s2).bd fun y s3 => lcL vs g mt me o all env r s3 (acc ++ [y])
      else lcL vs g mt me o all env r s2 acc
    else .bad
def mLc (m : Bool) (vs : List Nat) (g : MG) (mt : MT) (me : ME) (mi : MI) : ME := fun env st => (mi env st).bd fun p s => (lcL vs g mt me p.2 p.1 env p.1 s []).bd fun acc s2 => newL m acc s2
section
variable {K K' : Kx} {ρ ρ' : List Addr} {H H' : Hp}
/-- only places that are kept apart have changed -/
def Ag (K : Kx) (H H' : Hp) : Prop := ∀ a, a ∉ K.ex → H' a = H a
theorem Ag.rd (g : Ag K H H') {a : Addr} {u : HO} (f : Fr1 K ρ a) (h : Rd H a u) : Rd H' a u := by
  have e := g a f.2
  rcases h with h | ⟨o, h⟩
  · exact .inl (by rw [e]; exact h)
  · exact .inr ⟨o, by rw [e]; exact h⟩
mutual
theorem Rp.ag (g : Ag K H H') : ∀ (d : D) (v : V), Rp K ρ H v d → Rp K ρ H' v d
  | _, _, .non => .non
  | _, _, .bl b => .bl b
  | _, _, .int i => .int i
  | _, _, .str y => .str y
  | .tup ds, _, .tup h z r => .tup (h.imp (fun q => ⟨q.1, g.rd q.1 q.2⟩) id) z (Rps.ag g ds _ r)
  | .lst ds, _, .lst n h z r => .lst n (by rw [g _ n.2]; exact h) z (Rps.ag g ds _ r)
  | .ro ds, _, .ro h z r => .ro (h.imp (fun q => ⟨q.1, g.rd q.1 q.2⟩) id) z (Rps.ag g ds _ r)
  | _, _, .ref h => .ref h
  | _, _, .dct n h => .dct n (by rw [g _ n.2]; exact h)
theorem Rps.ag (g : Ag K H H') : ∀ (ds : List D) (vs : List V), Rps K ρ H vs ds → Rps K ρ H' vs ds
  | [], _, .nil => .nil
  | d :: ds, _, .cons h r => .cons (Rp.ag g d _ h) (Rps.ag g ds _ r)
end
theorem Er.ag (g : Ag K H H') {σ : L2.St} {env : Ev} (h : Er K ρ H σ env) : Er K ρ H' σ env := ⟨h.len, fun i d e => let ⟨v, h1, h2⟩ := h.at_ i d e; ⟨v, h1, Rp.ag g d v h2⟩⟩
theorem Hr.ag (g : Ag K H H') (l : ∀ a ∈ K.ex, ∃ o, H' a = some o) {st : Sto} (h : Hr K ρ H st) : Hr K ρ H' st := ⟨h.len, h.nd, l, h.exd, fun n a o e1 e2 => by
  have q := h.ob n a o e1 e2
  have na : a ∉ K.ex := fun z => h.exd a z (List.mem_of_getElem? e1)
  cases o with
  | lst ds => obtain ⟨xs, a1, a2, a3⟩ := q; exact ⟨xs, by rw [g a na]; exact a1, a2, Rps.ag g _ _ a3⟩
  | dct => exact q
  | ins => exact q⟩
/-- a place that was kept apart becomes the store's -/
structure Ado (K K' : Kx) (p : Addr) : Prop where
  k : K'.K = K.K
  s : ∀ a, a ∈ K.ex ↔ a = p ∨ a ∈ K'.ex
theorem Ado.fr {p : Addr} (d : Ado K K' p) {a : Addr} (f : Fr1 K ρ a) : Fr1 K' (ρ ++ [p]) a := by
  refine ⟨fun z => ?_, fun z => f.2 ((d.s a).mpr (.inr z))⟩
  rcases List.mem_append.mp z with z | z
  · exact f.1 z
  · exact f.2 ((d.s a).mpr (.inl (by simpa using z)))
mutual
theorem Rp.ado {p : Addr} (l : Ado K K' p) : ∀ (d : D) (v : V), Rp K ρ H v d → Rp K' (ρ ++ [p]) H v d
  | _, _, .non => .non
  | _, _, .bl b => .bl b
  | _, _, .int i => .int i
  | _, _, .str y => .str y
  | .tup ds, _, .tup h z r => .tup (h.imp (fun q => ⟨l.fr q.1, q.2⟩) fun q => by rw [l.k]; exact q) z (Rps.ado l ds _ r)
  | .lst ds, _, .lst n h z r => .lst (l.fr n) h z (Rps.ado l ds _ r)
  | .ro ds, _, .ro h z r => .ro (h.imp (fun q => ⟨l.fr q.1, q.2⟩) fun q => by rw [l.k]; exact q) z (Rps.ado l ds _ r)
  | _, _, .ref h => .ref (by rw [List.getElem?_append_left (List.getElem?_eq_some_iff.mp h).1]; exact h)
  | _, _, .dct n h => .dct (l.fr n) h
theorem Rps.ado {p : Addr} (l : Ado K K' p) : ∀ (ds : List D) (vs : List V), Rps K ρ H vs ds → Rps K' (ρ ++ [p]) H vs ds
  | [], _, .nil => .nil
  | d :: ds, _, .cons h r => .cons (Rp.ado l d _ h) (Rps.ado l ds _ r)
end
theorem Hr.ado {p : Addr} (l : Ado K K' p) (np : p ∉ K'.ex) {st : Sto} {ds : List D} {xs : List V} (h : Hr K ρ H st) (hp : H p = some (.lst xs)) (hz : xs.length ≤ sizeLine) (r : Rps K ρ H xs ds) : Hr K' (ρ ++ [p]) H (st ++ [.lst ds]) := by
  have pr : p ∉ ρ := h.exd p ((l.s p).mpr (.inl rfl))
  refine ⟨by simp [h.len], ?_, fun a ha => h.exl a ((l.s a).mpr (.inr ha)), fun a ha z => ?_, fun n a o e1 e2 => ?_⟩
  · rw [List.nodup_append]
    exact ⟨h.nd, by simp, fun a ha b hb e => by
      have e' : b = p := by simpa using hb
      subst e' e; exact pr ha⟩
  · rcases List.mem_append.mp z with z | z
    · exact h.exd a ((l.s a).mpr (.inr ha)) z
    · have e : a = p := by simpa using z
      subst e
      exact np ha
  · by_cases hn : n < ρ.length
    · rw [List.getElem?_append_left hn] at e1
      rw [List.getElem?_append_left (by rw [← h.len]; exact hn)] at e2
      have q := h.ob n a o e1 e2
      cases o with
      | lst es => obtain ⟨ys, a1, a2, a3⟩ := q; exact ⟨ys, a1, a2, Rps.ado l _ _ a3⟩
      | dct => exact q
      | ins => exact q
    · have h1 : n = ρ.length := by
        have := (List.getElem?_eq_some_iff.mp e1).1
        simp at this; omega
      subst h1
      simp at e1
      rw [h.len] at e2
      simp at e2
      subst e1 e2
      exact ⟨xs, hp, hz, Rps.ado l _ _ r⟩
end
/-- the list that a comprehension has made, in the end -/
theorem made {K : PySem.W.Frag} {ξ ρ1 ρ : List Addr} {H1 H : Hp} {st : Sto} {m : Bool} {acc : List D} {xs : List V} {p : Addr} {Q : VK} (np : H1 p = none) (n1 : p ∉ ρ1) (nx : p ∉ ξ) (x : Xt ρ1 H1 ρ H) (h : Hr ⟨K, p :: ξ⟩ ρ H st) (hp : H p = some (.lst xs)) (hz : xs.length ≤ sizeLine)
    (r : Rps ⟨K, p :: ξ⟩ ρ H xs acc) (w : (newL m acc st).wp fun d s' => ∀ ρ' H' v', Xt ρ1 H1 ρ' H' → Hr ⟨K, ξ⟩ ρ' H' s' → Rp ⟨K, ξ⟩ ρ' H' v' d → Q v' H') : Q (.ref p) H := by
  have l : Lss ⟨K, p :: ξ⟩ ⟨K, ξ⟩ := ⟨rfl, fun a q => List.mem_cons_of_mem _ q⟩
  unfold newL at w
  cases m with
  | false =>
    exact w ρ H _ x (h.less l) (.lst ⟨h.exd p List.mem_cons_self, nx⟩ hp hz (Rps.less l _ _ r))
  | true =>
    have l2 : Ado ⟨K, p :: ξ⟩ ⟨K, ξ⟩ p := ⟨rfl, fun a => List.mem_cons⟩
    refine w (ρ ++ [p]) H _ ?_ (Hr.ado l2 nx h hp hz r) (.ref ?_)
    · obtain ⟨⟨l', e, hl⟩, k⟩ := x
      refine ⟨⟨l' ++ [p], by rw [e, List.append_assoc], fun a ha => ?_⟩, k⟩
      rcases List.mem_append.mp ha with q | q
      · exact hl a q
      · have e' : a = p := by simpa using q
        subst e'
        exact ⟨np, n1⟩
    · rw [← h.len]
      simp
/-- what the blocks ask, all at once -/
def allE (X : Cx) (scope : Scope) (e : Expr) : TE := fun σ H Q => ∀ (s : Shared) (H0 : Hp) (C : Addr) (cl : List (Str × Addr)) (fp : List Addr), RE (X.blk s H0 scope (compEnvC scope cl C X.env) fp) e σ H Q
def allT (X : Cx) (scope : Scope) (es : List Expr) : TT := fun σ H Q => ∀ (s : Shared) (H0 : Hp) (C : Addr) (cl : List (Str × Addr)) (fp : List Addr), RTs (X.blk s H0 scope (compEnvC scope cl C X.env) fp) es σ H Q
def allG (X : Cx) (scope : Scope) (t : Expr) : TG := fun v σ H Q => ∀ (s : Shared) (H0 : Hp) (C : Addr) (cl : List (Str × Addr)) (fp : List Addr), RG (X.blk s H0 scope (compEnvC scope cl C X.env) fp) t v σ H Q
theorem wipe_same {σ σ' : L2.St} {vs sl : List Nat} (hs : ∀ i ∈ sl, i ∈ vs) (hl : σ'.length = σ.length) (h : ∀ i, i ∉ sl → σ'[i]? = σ[i]?) : wipe σ' vs = wipe σ vs := by
  have at_ : ∀ (τ : L2.St) (ws : List Nat) (i : Nat), (wipe τ ws)[i]? = if i ∈ ws then (if i < τ.length then some none else none) else τ[i]? := by
    intro τ ws
    induction ws with
    | nil => intro i; simp [wipe]
    | cons v ws ih =>
      intro i
      show ((wipe τ ws).set v none)[i]? = _
      by_cases e : v = i
      · subst e
        rw [List.getElem?_set_self', ih]
        by_cases q : v ∈ ws
        · by_cases z : v < τ.length <;> simp [q, z]
        · by_cases z : v < τ.length
          · simp [q, z, List.getElem?_eq_getElem z]
          · simp [q, z]
      · rw [List.getElem?_set_ne e, ih]
        have : (i ∈ v :: ws) = (i ∈ ws) := by simp [Ne.symm e]
        simp only [this]
  apply List.ext_getElem?
  intro i
  rw [at_, at_, hl]
  by_cases q : i ∈ vs
  · simp [q]
  · simp only [q, if_false]
    exact h i fun z => q (hs i z)
theorem wipe_idem (σ : L2.St) (vs : List Nat) : wipe (wipe σ vs) vs = wipe σ vs := by
  have at_ : ∀ (τ : L2.St) (ws : List Nat) (i : Nat), i ∈ ws → i < τ.length → (wipe τ ws)[i]? = some none := by
    intro τ ws
    induction ws with
    | nil => intro i h; cases h
    | cons v ws ih =>
      intro i h hl
      show ((wipe τ ws).set v none)[i]? = _
      by_cases e : v = i
      · subst e
        rw [List.getElem?_set_self (by rw [wipe_length]; exact hl)]
      · rw [List.getElem?_set_ne e]
        exact ih i (by rcases List.mem_cons.mp h with q | q; exact absurd q.symm e; exact q) hl
  apply List.ext_getElem?
  intro i
  by_cases q : i ∈ vs
  · by_cases z : i < σ.length
    · rw [at_ _ vs i q (by rw [wipe_length]; exact z), at_ _ vs i q z]
    · rw [List.getElem?_eq_none (by rw [wipe_length, wipe_length]; omega), List.getElem?_eq_none (by rw [wipe_length]; omega)]
  · rw [wipe_out q]
section
variable {X : Cx} {c : Ci} {elt tg iter : Expr} {ifs : List Expr} {scope : Scope} {own : List (Str × Nat)} {pos spos : Pos} {sl : List Nat} {g : MG} {mt : MT} {me : ME} {mi : MI} {m : Bool}
theorem lc_read (gd : Gd X c) (hi : SI X tg iter mi) (hsl : ∀ i ∈ sl, i ∈ own.map (·.2))
    (hg : ∀ (s : Shared) (H : Hp) (C : Addr) (cl : List (Str × Addr)) (fp : List Addr), SG (X.blk s H scope (compEnvC scope cl C X.env) fp) tg sl g)
    (ht : ∀ (s : Shared) (H : Hp) (C : Addr) (cl : List (Str × Addr)) (fp : List Addr), STs (X.blk s H scope (compEnvC scope cl C X.env) fp) ifs mt)
    (he : ∀ (s : Shared) (H : Hp) (C : Addr) (cl : List (Str × Addr)) (fp : List Addr), SE (X.blk s H scope (compEnvC scope cl C X.env) fp) elt me)
    {ξ ρ : List Addr} {H : Hp} {σ : L2.St} {env : Ev} {st : Sto} {Q : VK} (e0 : Er (X.kx ξ) ρ H σ env) (hr : Hr (X.kx ξ) ρ H st)
    (w : (mLc m (own.map (·.2)) g mt me mi env st).wp fun d st' => ∀ ρ' H' v, Xt ρ H ρ' H' → Hr (X.kx ξ) ρ' H' st' → Rp (X.kx ξ) ρ' H' v d → Q v H') :
    tLc (RI X tg iter) (allG X scope tg) (allT X scope ifs) (allE X scope elt) (own.map (·.2)) σ H Q := by
  refine hi ξ ρ H σ env st _ e0 hr (R.wp_mono (R.wp_bd.mp w) fun p s1 w1 ρ1 H1 J x1 h1 J1 => ?_)
  obtain ⟨ds, o⟩ := p
  intro P hP
  have len1 : ds.length ≤ sizeLine := J1.len
  generalize own.map (·.2) = vs at *
  have nP := h1.new hP
  -- the made list's place is kept apart
  have mre : Mre (X.kx ξ) ⟨X.K, P :: ξ⟩ H1 := ⟨rfl, fun a ha => by
    rcases List.mem_cons.mp ha with q | q
    · exact .inr (by rw [q]; exact hP)
    · exact .inl q⟩
  have w1' : (lcL vs g mt me o ds env ds s1 []).wp fun acc s2 => (newL m acc s2).wp fun d st' => ∀ ρ' H' v, Xt ρ H ρ' H' → Hr (X.kx ξ) ρ' H' st' → Rp (X.kx ξ) ρ' H' v d → Q v H' := R.wp_bd.mp w1
  have x2 : Xt ρ1 H1 ρ1 (upd H1 P (.lst [])) := .same (same_upd hP)
  have h2 : Hr ⟨X.K, P :: ξ⟩ ρ1 (upd H1 P (.lst [])) s1 := by
    have b : Hr (X.kx ξ) ρ1 (upd H1 P (.lst [])) s1 := h1.same (same_upd hP)
    refine ⟨b.len, b.nd, fun a ha => ?_, fun a ha => ?_, fun n a o e1 e2 => ?_⟩
    · rcases List.mem_cons.mp ha with q | q
      · exact ⟨_, by rw [q]; exact upd_same⟩
      · exact b.exl a q
    · rcases List.mem_cons.mp ha with q | q
      · rw [q]; exact nP.1
      · exact b.exd a q
    · have q := h1.ob n a o e1 e2
      cases o with
      | lst es => obtain ⟨ys, a1, a2, a3⟩ := q; exact ⟨ys, same_upd hP _ _ a1, a2, Rps.xt x2 _ _ (Rps.more mre _ _ a3)⟩
      | dct => exact q
      | ins => exact q
  refine ⟨fun i k H' => k = ds.length - i ∧ ∃ ρ' st' acc xs, Xt ρ1 H1 ρ' H' ∧ Hr ⟨X.K, P :: ξ⟩ ρ' H' st' ∧ H' P = some (.lst xs) ∧ xs.length ≤ i ∧ i ≤ ds.length ∧ Rps ⟨X.K, P :: ξ⟩ ρ' H' xs acc ∧ Er ⟨X.K, P :: ξ⟩ ρ' H' (wipe σ vs) (wipeE env vs) ∧
      (lcL vs g mt me o ds env (ds.drop i) st' acc).wp fun acc s2 => (newL m acc s2).wp fun d st' => ∀ ρ' H' v, Xt ρ H ρ' H' → Hr (X.kx ξ) ρ' H' st' → Rp (X.kx ξ) ρ' H' v d → Q v H',
    ⟨_, rfl, ρ1, s1, [], [], x2, h2, upd_same, Nat.le_refl _, Nat.zero_le _, .nil, ((Er.more mre (e0.xt x1)).xt x2).wipe vs, w1'⟩, ?_⟩
  rintro i k H2 ⟨rfl, ρ2, st2, acc, xs, x3, h3, hp3, hl3, hi3, r3, e3, w3⟩
  have gs : gstB o ds st2 = true := by
    cases q : gstB o ds st2 with
    | true => rfl
    | false =>
      exfalso
      cases r : ds.drop i with
      | nil => rw [r] at w3; unfold lcL at w3; rw [q] at w3; exact w3
      | cons d l => rw [r] at w3; unfold lcL at w3; rw [q] at w3; exact w3
  by_cases hl : i < ds.length
  · have hd : ds.drop i = ds[i] :: ds.drop (i + 1) := List.drop_eq_getElem_cons hl
    rw [hd] at w3
    unfold lcL at w3
    rw [if_pos gs] at w3
    obtain ⟨q1, q2⟩ := J1.go ⟨X.K, P :: ξ⟩ ρ2 H2 st2 x3 mre h3 (gstB_ok gs) i _ (List.getElem?_eq_getElem hl)
    refine .inr ⟨q1, fun H' => ∃ ρ' st' acc xs, Xt ρ1 H1 ρ' H' ∧ Hr ⟨X.K, P :: ξ⟩ ρ' H' st' ∧ H' P = some (.lst xs) ∧ xs.length ≤ i + 1 ∧ i + 1 ≤ ds.length ∧ Rps ⟨X.K, P :: ξ⟩ ρ' H' xs acc ∧ Er ⟨X.K, P :: ξ⟩ ρ' H' (wipe σ vs) (wipeE env vs) ∧
      (lcL vs g mt me o ds env (ds.drop (i + 1)) st' acc).wp fun acc s2 => (newL m acc s2).wp fun d st' => ∀ ρ' H' v, Xt ρ H ρ' H' → Hr (X.kx ξ) ρ' H' st' → Rp (X.kx ξ) ρ' H' v d → Q v H', fun H' q => ⟨ds.length - (i + 1), by omega, rfl, q⟩, fun x H3 y => ?_⟩
    obtain ⟨sm, rx⟩ := q2 x H3 y
    intro s H0 C cl fp
    refine hg s H0 C cl fp (P :: ξ) ρ2 H3 (wipe σ vs) (wipeE env vs) st2 x _ _ (e3.xt (.same sm)) (h3.same sm) rx (R.wp_mono (R.wp_bd.mp w3) fun env4 s4 w4 ρ4 H4 σ4 x4 h4 e4 k4 => ⟨?_, ?_⟩)
    · rw [wipe_same hsl k4.1 k4.2]
      exact wipe_idem σ vs
    · intro s H0 C cl fp
      refine ht s H0 C cl fp (P :: ξ) ρ4 H4 σ4 env4 s4 _ e4 h4 (R.wp_mono (R.wp_bd.mp w4) fun b s5 w5 ρ5 H5 x5 h5 => ?_)
      have keepP : ∀ {ρ' : List Addr} {H' : Hp}, Xt ρ2 H3 ρ' H' → H' P = some (.lst xs) := fun x' => x'.keep P _ (h3.exd P List.mem_cons_self) (sm _ _ hp3)
      have e5 : Er ⟨X.K, P :: ξ⟩ ρ5 H5 (wipe σ vs) (wipeE env vs) := e3.xt ((Xt.same sm).trans (x4.trans x5))
      cases b with
      | false => exact iteF ⟨ρ5, s5, acc, xs, x3.trans ((Xt.same sm).trans (x4.trans x5)), h5, keepP (x4.trans x5), by omega, by omega, Rps.xt ((Xt.same sm).trans (x4.trans x5)) _ _ r3, e5, w5⟩
      | true =>
        refine iteT fun s H0 C cl fp => he s H0 C cl fp (P :: ξ) ρ5 H5 σ4 env4 s5 _ (e4.xt x5) h5 (R.wp_mono (R.wp_bd.mp w5) fun y s6 w6 ρ6 H6 u x6 h6 r6 => ?_)
        have xx : Xt ρ2 H2 ρ6 H6 := (Xt.same sm).trans (x4.trans (x5.trans x6))
        have hP6 := keepP (x4.trans (x5.trans x6))
        have ag : Ag ⟨X.K, P :: ξ⟩ H6 (upd H6 P (.lst (xs ++ [u]))) := fun a ha => upd_ne fun z => ha (by rw [z]; exact List.mem_cons_self)
        have lz : xs.length + 1 ≤ sizeLine := by omega
        refine ⟨xs, hP6, lz, ρ6, s6, acc ++ [y], xs ++ [u], ⟨?_, ?_⟩, Hr.ag ag (fun a ha => ?_) h6, upd_same, by simp; omega, by omega, Rps.ag ag _ _ ((Rps.xt xx _ _ r3).app (.cons r6 .nil)), Er.ag ag (e3.xt xx), w6⟩
        · exact (x3.trans xx).pre
        · intro a oo na ha
          rw [upd_ne fun z => by rw [z, hP] at ha; cases ha]
          exact (x3.trans xx).keep a oo na ha
        · by_cases z : a = P
          · exact ⟨_, by rw [z]; exact upd_same⟩
          · rw [upd_ne z]
            exact h6.exl a ha
  · have hd : ds.drop i = [] := List.drop_eq_nil_of_le (by omega)
    rw [hd] at w3
    unfold lcL at w3
    rw [if_pos gs] at w3
    refine .inl ⟨J1.stop ⟨X.K, P :: ξ⟩ ρ2 H2 st2 x3 mre h3 (gstB_ok gs) i (show i = ds.length by omega), ?_⟩
    have w4 : (newL m acc st2).wp fun d st' => ∀ ρ' H' v, Xt ρ H ρ' H' → Hr (X.kx ξ) ρ' H' st' → Rp (X.kx ξ) ρ' H' v d → Q v H' := w3
    exact made hP nP.1 nP.2 x3 h3 hp3 (by omega) r3 (R.wp_mono w4 fun d s' k ρ' H' v' x' => k ρ' H' v' (x1.trans x'))
end
end Rf
set_option maxHeartbeats 4000000
namespace Rf
open PySem PySem.Spec L2
open PyProof.Rows hiding St
/-! ## blocks -/
def Ci.blk (c : Ci) (scope : Scope) (own : List (Str × Nat)) : Ci := ⟨relS scope c.sc, c.N, own.map (·.1)⟩
/-- a block's own names are stored in its own places -/
def ownB (scope : Scope) (own : List (Str × Nat)) : Bool := own.all fun p => match scope.names.lookup p.1 with
  | some .local => true
  | some .cell => true
  | _ => false
section
variable {X : Cx} {c : Ci} {G : Gi} {F : Fn}
theorem Gd.blk (g : Gd X c) {scope : Scope} {own : List (Str × Nat)} (ho : ownB scope own = true) (s : Shared) (H : Hp) (C : Addr) (cl : List (Str × Addr)) (fp : List Addr) : Gd (X.blk s H scope (compEnvC scope cl C X.env) fp) (c.blk scope own) where
  hN := g.hN
  hsc := by
    show relS scope X.env.scope = relS scope c.sc
    rw [g.hsc]
  calm := g.calm
  nd := g.nd
  hst := fun x hx => by
    obtain ⟨p, hp, e⟩ := List.mem_map.mp hx
    have h := List.all_eq_true.mp ho p hp
    rw [e] at h
    cases q : scope.names.lookup x with
    | none => rw [q] at h; cases h
    | some k =>
      rw [q] at h
      cases k with
      | «local» =>
        refine .inr ?_
        show (relS scope X.env.scope).names.lookup x = some .local
        exact lookup_relS_keep (by decide) q
      | cell =>
        refine .inl ?_
        show (scope.names.lookup x == some .cell) = true
        rw [q]
        rfl
      | _ => cases h
  xe := rfl
theorem Wd.blk (W : Wd X G F) (scope : Scope) (s : Shared) (H : Hp) (C : Addr) (cl : List (Str × Addr)) (fp : List Addr) : Wd (X.blk s H scope (compEnvC scope cl C X.env) fp) G F :=
  ⟨W.gq, W.room, fun e he => ⟨(W.fs e he).ex⟩, W.bl, W.cs, W.gcd, W.tb⟩
theorem se_lc {elt tg iter : Expr} {ifs : List Expr} {scope : Scope} {own : List (Str × Nat)} {pos : Pos} {sl : List Nat} {g : MG} {mt : MT} {me : ME} {mi : MI} (m : Bool) (gd : Gd X c) (hn : noSet iter = true) (ok : blkC c.N c.sc scope own = true) (hi : SI X tg iter mi) (hsl : ∀ i ∈ sl, i ∈ own.map (·.2))
    (hg : ∀ (s : Shared) (H : Hp) (C : Addr) (cl : List (Str × Addr)) (fp : List Addr), SG (X.blk s H scope (compEnvC scope cl C X.env) fp) tg sl g)
    (ht : ∀ (s : Shared) (H : Hp) (C : Addr) (cl : List (Str × Addr)) (fp : List Addr), STs (X.blk s H scope (compEnvC scope cl C X.env) fp) ifs mt)
    (he : ∀ (s : Shared) (H : Hp) (C : Addr) (cl : List (Str × Addr)) (fp : List Addr), SE (X.blk s H scope (compEnvC scope cl C X.env) fp) elt me) :
    SE X (.ListComp elt [⟨tg, iter, ifs, 0⟩] scope pos) (mLc m (own.map (·.2)) g mt me mi) := fun ξ ρ H σ env st Q e0 hr w => by
  have ok' : BlkOk X.N X.env.scope scope own := by rw [gd.hN, gd.hsc]; exact blkOk_by ok
  exact (pe_lc gd.calm (by rw [gd.hN]; exact gd.nd) pi_ri ok' (g := allG X scope tg) (tt := allT X scope ifs) (te := allE X scope elt)
    (fun s H C cl fp => ⟨fun pins s' σ H' v u Z I r h => h s H C cl fp pins s' u I r⟩) (fun s H C cl fp => ⟨fun pins s' σ H' Z I h => h s H C cl fp pins s' I⟩) (fun s H C cl fp => ⟨fun pins s' σ H' Z I h => h s H C cl fp pins s' I⟩) (folded_no hn X.env)).re
    (lc_read gd hi hsl hg ht he e0 hr w)
theorem sx_setLc {i : Nat} {y : Str} {py : Pos} {elt tg iter : Expr} {ifs : List Expr} {scope : Scope} {own : List (Str × Nat)} {pos spos : Pos} {sl : List Nat} {g : MG} {mt : MT} {me : ME} {mi : MI} (m : Bool) (gd : Gd X c) (hk : c.sc.kind = .function) (hy : c.N[i]? = some y) (hyl : c.sc.names.lookup y = some .local)
    (hln : (py.line == pos.line) = true) (ha : (scope.names.any fun (n, k) => n == y && (k == .local || k == .cell)) = false) (hn : noSet iter = true) (ok : blkC c.N c.sc scope own = true) (hi : SI X tg iter mi) (hsl : ∀ i ∈ sl, i ∈ own.map (·.2))
    (hg : ∀ (s : Shared) (H : Hp) (C : Addr) (cl : List (Str × Addr)) (fp : List Addr), SG (X.blk s H scope (compEnvC scope cl C X.env) fp) tg sl g)
    (ht : ∀ (s : Shared) (H : Hp) (C : Addr) (cl : List (Str × Addr)) (fp : List Addr), STs (X.blk s H scope (compEnvC scope cl C X.env) fp) ifs mt)
    (he : ∀ (s : Shared) (H : Hp) (C : Addr) (cl : List (Str × Addr)) (fp : List Addr), SE (X.blk s H scope (compEnvC scope cl C X.env) fp) elt me) :
    SX X (.Assign [.Name y py] (.ListComp elt [⟨tg, iter, ifs, 0⟩] scope pos) spos) (mAsg (gNm i) (mLc m (own.map (·.2)) g mt me mi)) := fun ξ ρ H σ env st E e0 hr w => by
  have ok' : BlkOk X.N X.env.scope scope own := by rw [gd.hN, gd.hsc]; exact blkOk_by ok
  refine (ps_setLc (i := i) gd.calm (by rw [gd.hN]; exact gd.nd) (by rw [gd.hN]; exact hy) (by rw [gd.hsc]; exact hyl) (sw_true (by rw [gd.hsc]; exact hk) (by rw [gd.hsc]; exact hyl) hln ha) pi_ri ok' (g := allG X scope tg) (tt := allT X scope ifs) (te := allE X scope elt)
    (fun s H C cl fp => ⟨fun pins s' σ H' v u Z I r h => h s H C cl fp pins s' u I r⟩) (fun s H C cl fp => ⟨fun pins s' σ H' Z I h => h s H C cl fp pins s' I⟩) (fun s H C cl fp => ⟨fun pins s' σ H' Z I h => h s H C cl fp pins s' I⟩) (folded_no hn X.env)).rx ?_
  refine lc_read gd hi hsl hg ht he e0 hr (R.wp_mono (R.wp_bd.mp w) fun d s1 w1 ρ1 H1 v x1 h1 r1 => ?_)
  exact w1 ρ1 H1 _ x1 h1 ((e0.xt x1).set r1)
end
/-! ## comparisons, tests by rules -/
section
variable {X : Cx} {c : Ci} {G : Gi} {F : Fn}
/-- what an operation comes to is a truth -/
def ToB (f : Op2) : Prop := ∀ x y s d s', f x y s = .ok d s' → ∃ b, d = .bl b
theorem st_op2 {a b : Expr} {ma mb : ME} {f : Op2} {r : R2} {e : Expr} (hp : PT X e (tTest (tOp r (RE X a) (RE X b)))) (ha : SE X a ma) (hb : SE X b mb) (hd : Do2 X f r) (ht : ToB f) : ST X e (mTest (mOp2 f ma mb)) := by
  refine st_of hp (fun ξ ρ H σ env st Q e0 hr w => two ha hb e0 hr w fun x y s ρ' H' v u x1 h1 r1 r2 w1 => hd x y s ξ ρ' H' v u Q h1 r1 r2 (R.wp_mono w1 fun d s' k ρ2 H2 v' x2 => k ρ2 H2 v' (x1.trans x2))) fun env st x s e => ?_
  unfold mOp2 at e
  cases e1 : ma env st with
  | ok x1 s1 =>
    rw [e1] at e
    have e' : (mb env s1).bd (fun y s' => f x1 y s') = .ok x s := e
    cases e2 : mb env s1 with
    | ok y1 s2 => rw [e2] at e'; exact ht x1 y1 s2 x s e'
    | ex => rw [e2] at e'; cases e'
    | bad => rw [e2] at e'; cases e'
  | ex => rw [e1] at e; cases e
  | bad => rw [e1] at e; cases e
abbrev opCmp (g : Int → Int → Bool) : Op2 := opI2 yes2 fun i j => .bl (g i j)
theorem toB_cmp (g : Int → Int → Bool) : ToB (opCmp g) := by
  intro x y s d s' h
  unfold opCmp opI2 at h
  split at h
  · simp [yes2] at h
    exact ⟨_, h.1.symm⟩
  · cases h
theorem toB_eq (neg : Bool) : ToB (opEq neg) := by
  intro x y s d s' h
  unfold opEq at h
  split at h
  · cases h; exact ⟨_, rfl⟩
  · cases h; exact ⟨_, rfl⟩
  · unfold opEqP at h
    split at h
    · split at h
      · cases h; exact ⟨_, rfl⟩
      · cases h
    · cases h
theorem toB_in (neg : Bool) : ToB (opIn neg) := by
  intro x y s d s' h
  unfold opIn at h
  split at h
  · cases h; exact ⟨_, rfl⟩
  · split at h
    · cases h; exact ⟨_, rfl⟩
    · cases h
  · split at h
    · split at h
      · cases h; exact ⟨_, rfl⟩
      · unfold opInD at h
        split at h
        · split at h
          · cases h; exact ⟨_, rfl⟩
          · cases h
        · cases h
    · cases h
theorem do_cmp (g : Int → Int → Bool) : Do2 X (opCmp g) (rI (fun _ _ => True) fun i j => .bl (g i j)) := do_I2 (fun _ _ _ => trivial) fun ξ ρ H i j => .bl _
/-- is, of two truths -/
def opIsB (neg : Bool) : Op2 := fun x y s => match x, y with
  | .bl a, .bl b => .ok (.bl (if neg then !decide (a = b) else decide (a = b))) s
  | _, _ => .bad
theorem toB_isB (neg : Bool) : ToB (opIsB neg) := by
  intro x y s d s' h
  unfold opIsB at h
  split at h
  · cases h; exact ⟨_, rfl⟩
  · cases h
theorem do_isB (neg : Bool) : Do2 X (opIsB neg) (fun x y H Q => ∃ a b, x = .bl a ∧ y = .bl b ∧ Q (.bl (if neg then !decide (a = b) else decide (a = b))) H) := by
  intro x y s ξ ρ H v u Q hr r1 r2 w
  unfold opIsB at w
  split at w
  · cases r1
    cases r2
    exact ⟨_, _, rfl, rfl, w ρ H _ (.refl _ _) hr (.bl _)⟩
  · exact w.elim
/-- the rule of a comparison, and its meaning -/
inductive CmpR (X : Cx) : CmpOp → Op2 → Prop
  | mk {op : CmpOp} {f : Op2} {r : R2} (ho : OpR X (compareOp op) r) (hd : Do2 X f r) (hb : ToB f) : CmpR X op f
def cmpM (op : CmpOp) : Option Op2 := match op with
  | .Eq => some (opEq false)
  | .NotEq => some (opEq true)
  | .Lt => some (opCmp fun i j => decide (i < j))
  | .LtE => some (opCmp fun i j => decide (i ≤ j))
  | .Gt => some (opCmp fun i j => decide (j < i))
  | .GtE => some (opCmp fun i j => decide (j ≤ i))
  | .In => some (opIn false)
  | .NotIn => some (opIn true)
  | .Is => some (opIsB false)
  | .IsNot => some (opIsB true)
theorem cmpM_ok (W : Wd X G F) {op : CmpOp} {f : Op2} (h : cmpM op = some f) : CmpR X op f := by
  have hu : X.A.units + 64 < cLine := W.room.units
  cases op with
  | Eq => cases h; exact .mk (op_eqA hu) (do_eq _) (toB_eq _)
  | NotEq => cases h; exact .mk (op_neA hu) (do_eq _) (toB_eq _)
  | Lt => cases h; exact .mk (op_of0 op_lt) (do_cmp _) (toB_cmp _)
  | LtE => cases h; exact .mk (op_of0 op_le) (do_cmp _) (toB_cmp _)
  | Gt => cases h; exact .mk (op_of0 op_gt) (do_cmp _) (toB_cmp _)
  | GtE => cases h; exact .mk (op_of0 op_ge) (do_cmp _) (toB_cmp _)
  | In => cases h; exact .mk (op_inA (by have := W.room.un; omega)) (do_in _) (toB_in _)
  | NotIn => cases h; exact .mk (op_notInA (by have := W.room.un; omega)) (do_in _) (toB_in _)
  | Is => cases h; exact .mk op_is_bl (do_isB _) (toB_isB _)
  | IsNot => cases h; exact .mk op_isnot_bl (do_isB _) (toB_isB _)
theorem se_cmp {op : CmpOp} {f : Op2} {a b : Expr} {ma mb : ME} {pos : Pos} (h : CmpR X op f) (hm : behindInMarks op b = false) (ha : SE X a ma) (hb : SE X b mb) : SE X (.Compare a [op] [b] pos) (mOp2 f ma mb) := by
  cases h with
  | mk ho hd ht => exact se_op2 (pe_cmpR ho pe_re pe_re hm) ha hb hd
theorem st_cmp {op : CmpOp} {f : Op2} {a b : Expr} {ma mb : ME} {pos : Pos} (h : CmpR X op f) (hm : behindInMarks op b = false) (ha : SE X a ma) (hb : SE X b mb) : ST X (.Compare a [op] [b] pos) (mTest (mOp2 f ma mb)) := by
  cases h with
  | mk ho hd ht => exact st_op2 (pt_cmpR ho pe_re pe_re hm) ha hb hd ht
/-! ### is None -/
theorem se_isN {a : Expr} {ma : ME} {j : Nat} {pos pos' : Pos} (ha : SE X a ma) : SE X (.Compare a [.Is] [.Constant .none j pos'] pos) (mOp1 (opIsN false) ma) := se_op1 (pe_cmp (pc_isN pe_re) (by rfl)) ha (do_isN false)
theorem se_notN {a : Expr} {ma : ME} {j : Nat} {pos pos' : Pos} (ha : SE X a ma) : SE X (.Compare a [.IsNot] [.Constant .none j pos'] pos) (mOp1 (opIsN true) ma) := se_op1 (pe_cmp (pc_notN pe_re) (by rfl)) ha (do_isN true)
theorem st_isN' {neg : Bool} {a e : Expr} {ma : ME} {t : TE} (hp : PT X e (tB t)) (ht : t = tUn (fun x H Q => Q (.bl (if neg then !decide (x = .non) else decide (x = .non))) H) (RE X a)) (ha : SE X a ma) : ST X e (mTest (mOp1 (opIsN neg) ma)) := by
  subst ht
  refine st_of (t := tUn (fun x H Q => Q (.bl (if neg then !decide (x = .non) else decide (x = .non))) H) (RE X a)) hp (fun ξ ρ H σ env st Q e0 hr w => ?_) fun env st x s e => ?_
  · refine ha ξ ρ H σ env st _ e0 hr (R.wp_mono (R.wp_bd.mp w) fun x s w1 ρ1 H1 v x1 h1 r1 => ?_)
    exact do_isN neg x s ξ ρ1 H1 v Q h1 r1 (R.wp_mono w1 fun d s' k ρ2 H2 v' x2 => k ρ2 H2 v' (x1.trans x2))
  · unfold mOp1 at e
    cases e1 : ma env st with
    | ok x1 s1 =>
      rw [e1] at e
      have e' : R.ok (D.bl (if neg then !isN x1 else isN x1)) s1 = .ok x s := e
      cases e'
      exact ⟨_, rfl⟩
    | ex => rw [e1] at e; cases e
    | bad => rw [e1] at e; cases e
theorem st_isN {a : Expr} {ma : ME} {j : Nat} {pos pos' : Pos} (ha : SE X a ma) : ST X (.Compare a [.Is] [.Constant .none j pos'] pos) (mTest (mOp1 (opIsN false) ma)) := st_isN' (neg := false) (pt_cmp (pc_isN pe_re) (by rfl)) rfl ha
theorem st_notN {a : Expr} {ma : ME} {j : Nat} {pos pos' : Pos} (ha : SE X a ma) : ST X (.Compare a [.IsNot] [.Constant .none j pos'] pos) (mTest (mOp1 (opIsN true) ma)) := st_isN' (neg := true) (pt_cmp (pc_notN pe_re) (by rfl)) rfl ha
/-! ### a < b < c, of ints -/
def cmpI (op : CmpOp) : Option (Int → Int → Bool) := match op with
  | .Lt => some fun i j => decide (i < j)
  | .LtE => some fun i j => decide (i ≤ j)
  | .Gt => some fun i j => decide (j < i)
  | .GtE => some fun i j => decide (j ≤ i)
  | _ => none
theorem cmpI_ok {op : CmpOp} {g : Int → Int → Bool} (h : cmpI op = some g) : OpR X (compareOp op) (rI0 fun i j => .bl (g i j)) ∧ op ≠ .In ∧ op ≠ .NotIn := by
  cases op with
  | Lt => cases h; exact ⟨op_lt, by decide, by decide⟩
  | LtE => cases h; exact ⟨op_le, by decide, by decide⟩
  | Gt => cases h; exact ⟨op_gt, by decide, by decide⟩
  | GtE => cases h; exact ⟨op_ge, by decide, by decide⟩
  | _ => cases h
def mChn (g g' : Int → Int → Bool) (a b c : ME) : ME := fun env st => (a env st).bd fun x s => (b env s).bd fun y s1 => match x, y with
  | .int i, .int j => if g i j then (c env s1).bd fun z s2 => match z with
      | .int k => .ok (.bl (g' j k)) s2
      | _ => .bad
    else .ok (.bl false) s1
  | _, _ => .bad
theorem chn_read {a b e : Expr} {g g' : Int → Int → Bool} {ma mb mc : ME} (ha : SE X a ma) (hb : SE X b mb) (hc : SE X e mc) (ξ ρ : List Addr) (H : Hp) (σ : L2.St) (env : Ev) (st : Sto) (Q : VK) (e0 : Er (X.kx ξ) ρ H σ env) (hr : Hr (X.kx ξ) ρ H st)
    (w : (mChn g g' ma mb mc env st).wp fun d st' => ∀ ρ' H' v, Xt ρ H ρ' H' → Hr (X.kx ξ) ρ' H' st' → Rp (X.kx ξ) ρ' H' v d → Q v H') : tChain (rI0 fun i j => .bl (g i j)) (rI0 fun i j => .bl (g' i j)) (RE X a) (RE X b) (RE X e) σ H Q := by
  refine ha ξ ρ H σ env st _ e0 hr (R.wp_mono (R.wp_bd.mp w) fun x s w1 ρ1 H1 v x1 h1 r1 => ?_)
  refine hb ξ ρ1 H1 σ env s _ (e0.xt x1) h1 (R.wp_mono (R.wp_bd.mp w1) fun y s1 w2 ρ2 H2 u x2 h2 r2 => ?_)
  cases r1 with
  | int i =>
    cases r2 with
    | int j =>
      refine ⟨i, j, rfl, rfl, g i j, rfl, ?_⟩
      have w3 : (if g i j = true then (mc env s1).bd (fun z s2 => match z with | .int k => R.ok (D.bl (g' j k)) s2 | _ => .bad) else .ok (.bl false) s1).wp _ := w2
      by_cases z : g i j = true
      · rw [if_pos z] at w3 ⊢
        refine hc ξ ρ2 H2 σ env s1 _ (e0.xt (x1.trans x2)) h2 (R.wp_mono (R.wp_bd.mp w3) fun z s2 w4 ρ3 H3 t x3 h3 r3 => ?_)
        cases r3 with
        | int k => exact ⟨j, k, rfl, rfl, w4 ρ3 H3 _ ((x1.trans x2).trans x3) h3 (.bl _)⟩
        | _ => exact w4.elim
      · rw [if_neg z] at w3 ⊢
        exact w3 ρ2 H2 _ (x1.trans x2) h2 (.bl _)
    | _ => exact w2.elim
  | _ => cases r2 <;> exact w2.elim
theorem chn_bool {g g' : Int → Int → Bool} {ma mb mc : ME} : ∀ env st x s, mChn g g' ma mb mc env st = .ok x s → ∃ b, x = .bl b := by
  intro env st x s e
  unfold mChn at e
  cases e1 : ma env st with
  | ok x1 s1 =>
    rw [e1] at e
    simp only [R.bd_ok] at e
    cases e2 : mb env s1 with
    | ok y1 s2 =>
      rw [e2] at e
      simp only [R.bd_ok] at e
      split at e
      · split at e
        · cases e3 : mc env s2 with
          | ok z1 s3 =>
            rw [e3] at e
            simp only [R.bd_ok] at e
            split at e
            · cases e; exact ⟨_, rfl⟩
            · cases e
          | ex => rw [e3] at e; cases e
          | bad => rw [e3] at e; cases e
        · cases e; exact ⟨_, rfl⟩
      · cases e
    | ex => rw [e2] at e; cases e
    | bad => rw [e2] at e; cases e
  | ex => rw [e1] at e; cases e
  | bad => rw [e1] at e; cases e
theorem last_two {op op' : CmpOp} {b e : Expr} (h : op' ≠ .In) (h2 : op' ≠ .NotIn) : lastMarks [op, op'] [b, e] = false := nobehind e h h2
theorem se_chn {op op' : CmpOp} {g g' : Int → Int → Bool} {a b e : Expr} {ma mb mc : ME} {pos : Pos} (h : cmpI op = some g) (h' : cmpI op' = some g') (ha : SE X a ma) (hb : SE X b mb) (hc : SE X e mc) : SE X (.Compare a [op, op'] [b, e] pos) (mChn g g' ma mb mc) := fun ξ ρ H σ env st Q e0 hr w =>
  (pe_chain (cmpI_ok h).1 (cmpI_ok h').1 pe_re pe_re pe_re (last_two (cmpI_ok (X := X) h').2.1 (cmpI_ok (X := X) h').2.2)).re (chn_read ha hb hc ξ ρ H σ env st Q e0 hr w)
theorem st_chn {op op' : CmpOp} {g g' : Int → Int → Bool} {a b e : Expr} {ma mb mc : ME} {pos : Pos} (h : cmpI op = some g) (h' : cmpI op' = some g') (ha : SE X a ma) (hb : SE X b mb) (hc : SE X e mc) : ST X (.Compare a [op, op'] [b, e] pos) (mTest (mChn g g' ma mb mc)) :=
  st_of (pt_chain (cmpI_ok h).1 (cmpI_ok h').1 pe_re pe_re pe_re (last_two (cmpI_ok (X := X) h').2.1 (cmpI_ok (X := X) h').2.2)) (chn_read ha hb hc) chn_bool
end
/-! ## a list's methods -/
/-- a method of a list with one argument, with none -/
def mMt (f : Op2) (o e : ME) : ME := fun env st => (o env st).bd fun x s => if (lstD x s).isSome then (e env s).bd fun y s2 => f x y s2 else .bad
def mMt0 (f : Op1) (o : ME) : ME := fun env st => (o env st).bd fun x s => if (lstD x s).isSome then f x s else .bad
def opApp : Op2 := fun x y s => match x with
  | .ref n => match s[n]? with
    | some (.lst ds) => if ds.length < sizeLine then .ok .non (s.set n (.lst (ds ++ [y]))) else .bad
    | _ => .bad
  | _ => .bad
def opPop : Op1 := fun x s => match x with
  | .ref n => match s[n]? with
    | some (.lst ds) => match ds[ds.length - 1]? with
      | some d => .ok d (s.set n (.lst ds.dropLast))
      | none => .bad
    | _ => .bad
  | _ => .bad
section
variable {X : Cx} {c : Ci}
/-- a list of the store, at hand -/
theorem stL {K : Kx} {ρ : List Addr} {H : Hp} {v : V} {n : Nat} {s : Sto} {ds : List D} (hr : Hr K ρ H s) (r : Rp K ρ H v (.ref n)) (h : s[n]? = some (.lst ds)) : ∃ a xs, v = .ref a ∧ ρ[n]? = some a ∧ H a = some (.lst xs) ∧ xs.length ≤ sizeLine ∧ Rps K ρ H xs ds := by
  cases r with
  | ref hn =>
    obtain ⟨xs, h1, h2, h3⟩ := hr.ob n _ _ hn h
    exact ⟨_, xs, rfl, hn, h1, h2, h3⟩
/-- a store's list is another one from now on -/
theorem stP {K : Kx} {ρ : List Addr} {H : Hp} {n : Nat} {s : Sto} {a : Addr} {ds : List D} {xs : List V} (hr : Hr K ρ H s) (hn : ρ[n]? = some a) (hz : xs.length ≤ sizeLine) (r : Rps K ρ H xs ds) : Hr K ρ (upd H a (.lst xs)) (s.set n (.lst ds)) ∧ Xt ρ H ρ (upd H a (.lst xs)) :=
  hr.put hn fun ρ' H' x e => ⟨xs, e, hz, Rps.xt x _ _ r⟩
theorem do_app : Do2 X opApp (fun x y H Q => rAppend x [y] H Q) := by
  intro x y s ξ ρ H v u Q hr r1 r2 w
  cases x with
  | ref n =>
    have w' : (match s[n]? with | some (.lst ds) => (if ds.length < sizeLine then R.ok D.non (s.set n (.lst (ds ++ [y]))) else .bad) | _ => .bad).wp _ := w
    cases e : s[n]? with
    | none => rw [e] at w'; exact w'.elim
    | some o =>
      rw [e] at w'
      cases o with
      | lst ds =>
        have w2 : (if ds.length < sizeLine then R.ok D.non (s.set n (.lst (ds ++ [y]))) else .bad).wp _ := w'
        by_cases hz : ds.length < sizeLine
        · rw [if_pos hz] at w2
          obtain ⟨a, xs, rfl, hn, h1, h2, h3⟩ := stL hr r1 e
          rw [← h3.length] at hz
          obtain ⟨p1, p2⟩ := stP (xs := xs ++ [u]) hr hn (by simp; omega) (h3.app (.cons r2 .nil))
          exact ⟨a, xs, u, rfl, rfl, h1, hz, w2 ρ _ _ p2 p1 .non⟩
        · rw [if_neg hz] at w2; exact w2.elim
      | dct => exact w'.elim
      | ins => exact w'.elim
  | _ => exact w.elim
theorem do_pop : Do1 X opPop (fun x H Q => rPop x [] H Q) := by
  intro x s ξ ρ H v Q hr r1 w
  cases x with
  | ref n =>
    have w' : (match s[n]? with | some (.lst ds) => (match ds[ds.length - 1]? with | some d => R.ok d (s.set n (.lst ds.dropLast)) | none => .bad) | _ => .bad).wp _ := w
    cases e : s[n]? with
    | none => rw [e] at w'; exact w'.elim
    | some o =>
      rw [e] at w'
      cases o with
      | lst ds =>
        have w2 : (match ds[ds.length - 1]? with | some d => R.ok d (s.set n (.lst ds.dropLast)) | none => .bad).wp _ := w'
        cases e2 : ds[ds.length - 1]? with
        | none => rw [e2] at w2; exact w2.elim
        | some d =>
          rw [e2] at w2
          obtain ⟨a, xs, rfl, hn, h1, h2, h3⟩ := stL hr r1 e
          obtain ⟨z, hz, rz⟩ := h3.get e2
          obtain ⟨p1, p2⟩ := stP (xs := xs.dropLast) hr hn (by simp; omega) h3.dropLast
          exact ⟨a, xs, z, rfl, rfl, h1, by rw [h3.length]; exact hz, w2 ρ _ _ p2 p1 (rz.xt p2)⟩
      | dct => exact w'.elim
      | ins => exact w'.elim
  | _ => exact w.elim
theorem lst_ty {K : Kx} {ρ : List Addr} {H : Hp} {v : V} {x : D} {s : Sto} (hr : Hr K ρ H s) (r : Rp K ρ H v x) (h : (lstD x s).isSome = true) : tyV K.K "list" v H := by
  cases e : lstD x s with
  | none => rw [e] at h; cases h
  | some ds =>
    obtain ⟨a, xs, rfl, h1, _⟩ := lstD_ok hr r e
    exact .inl ⟨rfl, xs, SqL.of h1⟩
theorem se_mt {o e : Expr} {mo me : ME} {apos pos : Pos} {nm : Str} {id : String} {f : Op2} {r : V → List V → Hp → VK → Prop} (slot : Slot "list" nm id) (hty : typeOf (.builtin id) = pure (.type "method_descriptor")) (hm : MtR X id r) (hd : Do2 X f (fun x y H Q => r x [y] H Q))
    (hb : ∀ env, attributeBase o nm env (eval o env) = eval o env) (hl : (apos.endLine == pos.line) = true) (hp : plainArg e = true) (ho : SE X o mo) (he : SE X e me) : SE X (.Call (.Attribute o nm apos) [e] [] pos) (mMt f mo me) := fun ξ ρ H σ env st Q e0 hr w => by
  refine (pe_bm PySem.F.plainAttrs_list slot hty hm pe_re (pa_cons pe_re pa_nil (star_cons hp)) (hb X.env) (by rw [star_cons hp]; rfl) hl (star_cons hp)).re ?_
  refine ho ξ ρ H σ env st _ e0 hr (R.wp_mono (R.wp_bd.mp w) fun x s w1 ρ1 H1 v x1 h1 r1 => ?_)
  by_cases z : (lstD x s).isSome = true
  · rw [if_pos z] at w1
    refine ⟨lst_ty h1 r1 z, he ξ ρ1 H1 σ env s _ (e0.xt x1) h1 (R.wp_mono (R.wp_bd.mp w1) fun y s2 w2 ρ2 H2 u x2 h2 r2 => ?_)⟩
    exact hd x y s2 ξ ρ2 H2 v u Q h2 (r1.xt x2) r2 (R.wp_mono w2 fun d s' k ρ' H' v' x' => k ρ' H' v' ((x1.trans x2).trans x'))
  · rw [if_neg z] at w1; exact w1.elim
theorem se_mt0 {o : Expr} {mo : ME} {apos pos : Pos} {nm : Str} {id : String} {f : Op1} {r : V → List V → Hp → VK → Prop} (slot : Slot "list" nm id) (hty : typeOf (.builtin id) = pure (.type "method_descriptor")) (hm : MtR X id r) (hd : Do1 X f (fun x H Q => r x [] H Q))
    (hb : ∀ env, attributeBase o nm env (eval o env) = eval o env) (hl : (apos.endLine == pos.line) = true) (ho : SE X o mo) : SE X (.Call (.Attribute o nm apos) [] [] pos) (mMt0 f mo) := fun ξ ρ H σ env st Q e0 hr w => by
  refine (pe_bm0 PySem.F.plainAttrs_list slot hty hm pe_re (hb X.env) hl).re ?_
  refine ho ξ ρ H σ env st _ e0 hr (R.wp_mono (R.wp_bd.mp w) fun x s w1 ρ1 H1 v x1 h1 r1 => ?_)
  by_cases z : (lstD x s).isSome = true
  · rw [if_pos z] at w1
    exact ⟨lst_ty h1 r1 z, hd x s ξ ρ1 H1 v Q h1 r1 (R.wp_mono w1 fun d s' k ρ' H' v' x' => k ρ' H' v' (x1.trans x'))⟩
  · rw [if_neg z] at w1; exact w1.elim
/-- no call of super() -/
def noSuper : Expr → Bool
  | .Call (.Name _ _) [] [] _ => false
  | _ => true
theorem base_no {o : Expr} {nm : Str} (h : noSuper o = true) : ∀ env, attributeBase o nm env (eval o env) = eval o env := by
  intro env
  unfold attributeBase
  split
  · cases h
  · rfl
end
end Rf
set_option maxHeartbeats 4000000
namespace Rf
open PySem PySem.Spec L2
open PyProof.Rows hiding St
/-! ## tables: dicts of the module whose keys are texts -/
def opTget (kvs : List (Str × D)) : Op1 := fun x s => match x with
  | .str z => match kvs.lookup z with
    | some d => .ok d s
    | none => .bad
  | _ => .bad
def opTin (neg : Bool) (kvs : List (Str × D)) : Op1 := fun x s => match x with
  | .str z => .ok (.bl (if neg then !(kvs.lookup z).isSome else (kvs.lookup z).isSome)) s
  | _ => .bad
def rInK (K : PySem.W.Frag) (w : World) (neg : Bool) : R2 := fun x y H Q => ∃ z p es n r, x = .str z ∧ y = .ref p ∧ K.lookup p = some ⟨.type "dict", none, .dict es n, #[]⟩ ∧ PySem.W.KeysLit w.params es.toList ∧ (p == sysModules) = false ∧
  PySem.W.nsIn K p z = some r ∧ Q (.bl (if neg then !r.isSome else r.isSome)) H
section
variable {X : Cx} {c : Ci} {G : Gi} {F : Fn}
theorem op_inK : OpR X (compareOp .In) (rInK X.K X.w false) := by
  intro pins s σ H x y v u Q I rx ry h
  obtain ⟨z, p, es, n, r, rfl, rfl, hl, hk, lo, e, q⟩ := h
  obtain rfl : u = Value.ref p := ry
  obtain ⟨t, rfl⟩ := (show ∃ t, v = Value.str z t from rx)
  refine wpAny_in_of (strKind_is X.prog X.w z t) lo (PySem.W.mapOf_K (prog := X.prog) (w := X.w) I.kIn hl hk) ?_
  rw [PySem.W.find_K hl e]
  exact ⟨.bl r.isSome, H, I.tok _, rfl, q⟩
theorem op_ninK : OpR X (compareOp .NotIn) (rInK X.K X.w true) := by
  intro pins s σ H x y v u Q I rx ry h
  obtain ⟨z, p, es, n, r, rfl, rfl, hl, hk, lo, e, q⟩ := h
  obtain rfl : u = Value.ref p := ry
  obtain ⟨t, rfl⟩ := (show ∃ t, v = Value.str z t from rx)
  refine wpAny_notIn_of (strKind_is X.prog X.w z t) lo (PySem.W.mapOf_K (prog := X.prog) (w := X.w) I.kIn hl hk) ?_
  rw [PySem.W.find_K hl e]
  exact ⟨.bl (!r.isSome), H, I.tok _, rfl, q⟩
theorem TbK.any {K : PySem.W.Frag} {w : World} {a : Addr} {kvs : List (Str × D)} (T : TbK K w a kvs) (x : Str) : ∃ r, PySem.W.nsIn K a x = some r ∧ r.isSome = (kvs.lookup x).isSome := by
  obtain ⟨es, n, hl, hk, lo, h⟩ := T
  cases e : kvs.lookup x with
  | none => exact ⟨none, (h x).2 e, rfl⟩
  | some d =>
    obtain ⟨u, v, q, _⟩ := (h x).1 d e
    exact ⟨some u, q, rfl⟩
theorem okN {x : Str} (h : (!(x == ("__debug__" : Str)) && !(x == ("__classdict__" : Str)) && !(x == ("__name__" : Str))) = true) : (x == ("__debug__" : Str)) = false := by
  simp only [Bool.and_eq_true, Bool.not_eq_true'] at h
  exact h.1.1
theorem pe_tb {x : Str} {p : Pos} {A : Addr} (hg : Gl X x) (hm : X.mg x = some (.ref A)) (hx : (!(x == ("__debug__" : Str)) && !(x == ("__classdict__" : Str)) && !(x == ("__name__" : Str))) = true) : PE X (.Name x p) (tC (.ref A)) := pe_glob (v := V.ref A) hg hm (show L2.RelV (.ref A) (.ref A) from rfl) (okN hx)
theorem tin_read {x : Str} {a : Expr} {p pos : Pos} {ma : ME} {kvs : List (Str × D)} {A : Addr} (neg : Bool) (T : TbK X.K X.w A kvs) (ha : SE X a ma) (ξ ρ : List Addr) (H : Hp) (σ : L2.St) (env : Ev) (st : Sto) (Q : VK) (e0 : Er (X.kx ξ) ρ H σ env) (hr : Hr (X.kx ξ) ρ H st)
    (w : (mOp1 (opTin neg kvs) ma env st).wp fun d st' => ∀ ρ' H' v, Xt ρ H ρ' H' → Hr (X.kx ξ) ρ' H' st' → Rp (X.kx ξ) ρ' H' v d → Q v H') : tOp (rInK X.K X.w neg) (RE X a) (tC (.ref A)) σ H Q := by
  refine ha ξ ρ H σ env st _ e0 hr (R.wp_mono (R.wp_bd.mp w) fun d s1 w1 ρ1 H1 v x1 h1 r1 => ?_)
  cases r1 with
  | str z =>
    obtain ⟨r, q1, q2⟩ := T.any z
    obtain ⟨es, n, hl, hk, lo, -⟩ := T
    refine ⟨z, A, es, n, r, rfl, rfl, hl, hk, lo, q1, ?_⟩
    rw [q2]
    exact w1 ρ1 H1 _ x1 h1 (.bl _)
  | _ => exact w1.elim
theorem tin_bool (neg : Bool) {kvs : List (Str × D)} {ma : ME} : ∀ env st x s, mOp1 (opTin neg kvs) ma env st = .ok x s → ∃ b, x = .bl b := by
  intro env st x s e
  unfold mOp1 at e
  cases e1 : ma env st with
  | ok x1 s1 =>
    rw [e1] at e
    have e' : opTin neg kvs x1 s1 = .ok x s := e
    unfold opTin at e'
    split at e'
    · cases e'; exact ⟨_, rfl⟩
    · cases e'
  | ex => rw [e1] at e; cases e
  | bad => rw [e1] at e; cases e
section
variable {x : Str} {a : Expr} {p pos : Pos} {ma : ME} {kvs : List (Str × D)}
theorem se_tin (W : Wd X G F) (g : Gd X c) (hx : (!(x == ("__debug__" : Str)) && !(x == ("__classdict__" : Str)) && !(x == ("__name__" : Str))) = true) (hg : Gl X x) (ht : (x, kvs) ∈ G.ts) (ha : SE X a ma) : SE X (.Compare a [.In] [.Name x p] pos) (mOp1 (opTin false kvs) ma) := fun ξ ρ H σ env st Q e0 hr w => by
  obtain ⟨A, hm, T⟩ := W.tb _ ht
  exact (pe_cmpR op_inK pe_re (pe_tb hg hm hx) (by rfl)).re (tin_read (x := x) (p := p) (pos := pos) false T ha ξ ρ H σ env st Q e0 hr w)
theorem se_tnin (W : Wd X G F) (g : Gd X c) (hx : (!(x == ("__debug__" : Str)) && !(x == ("__classdict__" : Str)) && !(x == ("__name__" : Str))) = true) (hg : Gl X x) (ht : (x, kvs) ∈ G.ts) (ha : SE X a ma) : SE X (.Compare a [.NotIn] [.Name x p] pos) (mOp1 (opTin true kvs) ma) := fun ξ ρ H σ env st Q e0 hr w => by
  obtain ⟨A, hm, T⟩ := W.tb _ ht
  exact (pe_cmpR op_ninK pe_re (pe_tb hg hm hx) (by rfl)).re (tin_read (x := x) (p := p) (pos := pos) true T ha ξ ρ H σ env st Q e0 hr w)
theorem st_tin (W : Wd X G F) (g : Gd X c) (hx : (!(x == ("__debug__" : Str)) && !(x == ("__classdict__" : Str)) && !(x == ("__name__" : Str))) = true) (hg : Gl X x) (ht : (x, kvs) ∈ G.ts) (ha : SE X a ma) : ST X (.Compare a [.In] [.Name x p] pos) (mTest (mOp1 (opTin false kvs) ma)) := by
  obtain ⟨A, hm, T⟩ := W.tb _ ht
  exact st_of (pt_cmpR op_inK pe_re (pe_tb hg hm hx) (by rfl)) (tin_read (x := x) (p := p) (pos := pos) false T ha) (tin_bool false)
theorem st_tnin (W : Wd X G F) (g : Gd X c) (hx : (!(x == ("__debug__" : Str)) && !(x == ("__classdict__" : Str)) && !(x == ("__name__" : Str))) = true) (hg : Gl X x) (ht : (x, kvs) ∈ G.ts) (ha : SE X a ma) : ST X (.Compare a [.NotIn] [.Name x p] pos) (mTest (mOp1 (opTin true kvs) ma)) := by
  obtain ⟨A, hm, T⟩ := W.tb _ ht
  exact st_of (pt_cmpR op_ninK pe_re (pe_tb hg hm hx) (by rfl)) (tin_read (x := x) (p := p) (pos := pos) true T ha) (tin_bool true)
theorem se_tget (W : Wd X G F) (g : Gd X c) (hx : (!(x == ("__debug__" : Str)) && !(x == ("__classdict__" : Str)) && !(x == ("__name__" : Str))) = true) (hg : Gl X x) (ht : (x, kvs) ∈ G.ts) (hs : PlainIx a) (ha : SE X a ma) : SE X (.Subscript (.Name x p) a pos) (mOp1 (opTget kvs) ma) := fun ξ ρ H σ env st Q e0 hr w => by
  obtain ⟨A, hm, es, n, hl, hk, lo, h⟩ := W.tb _ ht
  refine (pe_ix ix_kdict (pe_tb hg hm hx) pe_re hs).re ?_
  refine ha ξ ρ H σ env st _ e0 hr (R.wp_mono (R.wp_bd.mp w) fun d s1 w1 ρ1 H1 v x1 h1 r1 => ?_)
  cases r1 with
  | str z =>
    have w2 : (match kvs.lookup z with | some d => R.ok d s1 | none => .bad).wp _ := w1
    cases e : kvs.lookup z with
    | none => rw [e] at w2; exact w2.elim
    | some d =>
      rw [e] at w2
      obtain ⟨u, v, q1, q2, q3⟩ := (h z).1 d e
      exact ⟨A, z, v, rfl, rfl, ⟨es, n, u, hl, hk, q1, q2⟩, w2 ρ1 H1 v x1 h1 (q3 _ _ _)⟩
  | _ => exact w1.elim
end
end
/-! ## list(range(..)), l.pop(i) -/
def mLrg (m : Bool) (ma : MA) : ME := fun env st => (ma env st).bd fun xs s => match xs with
  | [.int b] => if rgB 0 b then newL m (rgI 0 b) s else .bad
  | [.int a, .int b] => if rgB a b then newL m (rgI a b) s else .bad
  | _ => .bad
theorem rps_rg {K : Kx} {ρ : List Addr} {H : Hp} (a b : Int) : Rps K ρ H (rgV a b) (rgI a b) := by
  have e1 : rgV a b = ((List.range (b - a).toNat).map fun i => a + (i : Nat)).map V.int := by simp [rgV]
  have e2 : rgI a b = ((List.range (b - a).toNat).map fun i => a + (i : Nat)).map D.int := by simp [rgI]
  rw [e1, e2]
  exact Rps.of_ints _
section
variable {X : Cx} {p p2 pos pos2 : Pos}
theorem se_lrg1 {a : Expr} {ma : ME} (m : Bool) (hc : X.calm = true) (hg : Gl X "list") (hm : X.mg "list" = none) (hg2 : Gl X "range") (hm2 : X.mg "range" = none) (hp : plainArg a = true) (ha : SE X a ma) :
    SE X (.Call (.Name "list" p) [.Call (.Name "range" p2) [a] [] pos2] [] pos) (mLrg m (mCons ma mNil)) := fun ξ ρ H σ env st Q e0 hr w => by
  refine (pe_listRg hc hg hm (prg_1 hg2 hm2 pe_re (star_cons hp))).re ?_
  refine ha ξ ρ H σ env st _ e0 hr ?_
  have w' := R.wp_bd.mp (R.wp_bd.mp w)
  refine R.wp_mono w' fun x s w1 ρ1 H1 v x1 h1 r1 => ?_
  have w2 : (match [x] with
    | [.int b] => if rgB 0 b then newL m (rgI 0 b) s else .bad
    | [.int a, .int b] => if rgB a b then newL m (rgI a b) s else .bad
    | _ => .bad : R D).wp _ := w1
  cases r1 with
  | int n =>
    have w3 : (if rgB 0 n then newL m (rgI 0 n) s else .bad).wp _ := w2
    by_cases z : rgB 0 n = true
    · rw [if_pos z] at w3
      have zz := rgB_ok z
      refine ⟨n, rfl, ⟨zz.1, zz.2.1, zz.2.2.1, zz.2.2.2.1, zz.2.2.2.2⟩, fun q hq => ?_⟩
      exact newL_ok h1 hq (by rw [rgV_length, sizeLine_eq]; exact zz.2.2.2.2) (rps_rg _ _) (R.wp_mono w3 fun d s' k ρ' H' v' x' => k ρ' H' v' (x1.trans x'))
    · rw [if_neg z] at w3; exact w3.elim
  | _ => exact w2.elim
theorem se_lrg2 {a b : Expr} {ma mb : ME} (m : Bool) (hc : X.calm = true) (hg : Gl X "list") (hm : X.mg "list" = none) (hg2 : Gl X "range") (hm2 : X.mg "range" = none) (hp : plainArg a = true) (hp2 : plainArg b = true) (ha : SE X a ma) (hb : SE X b mb) :
    SE X (.Call (.Name "list" p) [.Call (.Name "range" p2) [a, b] [] pos2] [] pos) (mLrg m (mCons ma (mCons mb mNil))) := fun ξ ρ H σ env st Q e0 hr w => by
  refine (pe_listRg hc hg hm (prg_2 hg2 hm2 pe_re pe_re (by rw [star_cons hp]) (star_cons hp2) (by rw [star_cons hp2]; rfl))).re ?_
  refine ha ξ ρ H σ env st _ e0 hr ?_
  have w' := R.wp_bd.mp (R.wp_bd.mp w)
  refine R.wp_mono w' fun x s w1 ρ1 H1 v x1 h1 r1 => ?_
  refine hb ξ ρ1 H1 σ env s _ (e0.xt x1) h1 ?_
  have w1' := R.wp_bd.mp (R.wp_bd.mp w1)
  refine R.wp_mono w1' fun y s2 w2 ρ2 H2 u x2 h2 r2 => ?_
  have r1' := r1.xt x2
  have w3 : (match [x, y] with
    | [.int b] => if rgB 0 b then newL m (rgI 0 b) s2 else .bad
    | [.int a, .int b] => if rgB a b then newL m (rgI a b) s2 else .bad
    | _ => .bad : R D).wp _ := w2
  cases r1' with
  | int i =>
    cases r2 with
    | int n =>
      have w4 : (if rgB i n then newL m (rgI i n) s2 else .bad).wp _ := w3
      by_cases z : rgB i n = true
      · rw [if_pos z] at w4
        have zz := rgB_ok z
        refine ⟨i, n, rfl, rfl, ⟨zz.1, zz.2.1, zz.2.2.1, zz.2.2.2.1, zz.2.2.2.2⟩, fun q hq => ?_⟩
        exact newL_ok h2 hq (by rw [rgV_length, sizeLine_eq]; exact zz.2.2.2.2) (rps_rg _ _) (R.wp_mono w4 fun d s' k ρ' H' v' x' => k ρ' H' v' ((x1.trans x2).trans x'))
      · rw [if_neg z] at w4; exact w4.elim
    | _ => exact w3.elim
  | _ => cases y <;> exact w3.elim
end
def opPopAt : Op2 := fun x y s => match x, y with
  | .ref n, .int i => match s[n]? with
    | some (.lst ds) => if 0 ≤ i ∧ i < 4611686018427387904 then match ds[i.toNat]? with
      | some d => .ok d (s.set n (.lst (ds.eraseIdx i.toNat)))
      | none => .bad
    else .bad
    | _ => .bad
  | _, _ => .bad
theorem do_popAt {X : Cx} : Do2 X opPopAt (fun x y H Q => rPopAt x [y] H Q) := by
  intro x y s ξ ρ H v u Q hr r1 r2 w
  cases x with
  | ref n =>
    cases r2 with
    | int i =>
      have w' : (match s[n]? with
        | some (.lst ds) => if 0 ≤ i ∧ i < 4611686018427387904 then (match ds[i.toNat]? with
          | some d => R.ok d (s.set n (.lst (ds.eraseIdx i.toNat)))
          | none => .bad)
        else .bad
        | _ => .bad).wp _ := w
      cases e : s[n]? with
      | none => rw [e] at w'; exact w'.elim
      | some o =>
        rw [e] at w'
        cases o with
        | lst ds =>
          have w2 : (if 0 ≤ i ∧ i < 4611686018427387904 then (match ds[i.toNat]? with
          | some d => R.ok d (s.set n (.lst (ds.eraseIdx i.toNat)))
          | none => .bad)
        else .bad).wp _ := w'
          by_cases hz : 0 ≤ i ∧ i < 4611686018427387904
          · rw [if_pos hz] at w2
            cases e2 : ds[i.toNat]? with
            | none => rw [e2] at w2; exact w2.elim
            | some d =>
              rw [e2] at w2
              obtain ⟨a, xs, rfl, hn, h1, h2, h3⟩ := stL hr r1 e
              obtain ⟨z, hz2, rz⟩ := h3.get e2
              have hk : i.toNat < xs.length := (List.getElem?_eq_some_iff.mp hz2).1
              obtain ⟨p1, p2⟩ := stP (xs := xs.eraseIdx i.toNat) hr hn (by have := List.length_eraseIdx_le xs i.toNat; omega) (h3.erase i.toNat)
              refine ⟨a, xs, i, i.toNat, z, rfl, rfl, h1, by omega, by omega, ?_, hz2, w2 ρ _ _ p2 p1 (rz.xt p2)⟩
              unfold seqIndex?
              have e3 : (if i < 0 then i + (xs.length : Int) else i) = i := if_neg (by omega)
              simp only [e3]
              rw [if_pos]
              simp only [Bool.and_eq_true, decide_eq_true_eq]
              omega
          · rw [if_neg hz] at w2; exact w2.elim
        | dct => exact w'.elim
        | ins => exact w'.elim
    | _ => exact w.elim
  | _ => exact w.elim
/-! ## a test by a test -/
def mIfT (t a b : MT) : MT := fun env st => (t env st).bd fun k s => if k then a env s else b env s
section
variable {X : Cx}
theorem pt_ifExp {c a b : Expr} {pos : Pos} {tA ta tb : TT} (hc : PT X c tA) (ha : PT X a ta) (hb : PT X b tb) : PT X (.IfExp c a b pos) (fun σ H Q => tA σ H fun k H1 => if k = true then ta σ H1 Q else tb σ H1 Q) := by
  refine ⟨fun pins s σ H Q I h => ?_⟩
  rw [arm_isTrue_IfExp]
  refine wpAny_bind (thn (hc.run pins s σ H _ I h) fun d s1 ⟨H1, I1, q1⟩ => ?_)
  cases d with
  | true => exact ha.run pins s1 σ H1 Q I1 q1
  | false => exact hb.run pins s1 σ H1 Q I1 q1
theorem st_if {t a b : Expr} {pos : Pos} {mt ma mb : MT} (ht : ST X t mt) (ha : ST X a ma) (hb : ST X b mb) : ST X (.IfExp t a b pos) (mIfT mt ma mb) := fun ξ ρ H σ env st Q e0 hr w => by
  refine (pt_ifExp pt_rt pt_rt pt_rt).rt (ht ξ ρ H σ env st _ e0 hr (R.wp_mono (R.wp_bd.mp w) fun k s w1 ρ1 H1 x1 h1 => ?_))
  cases k with
  | true => exact iteT (ha ξ ρ1 H1 σ env s Q (e0.xt x1) h1 (R.wp_mono w1 fun b s2 w2 ρ2 H2 x2 h2 => w2 ρ2 H2 (x1.trans x2) h2))
  | false => exact iteF (hb ξ ρ1 H1 σ env s Q (e0.xt x1) h1 (R.wp_mono w1 fun b s2 w2 ρ2 H2 x2 h2 => w2 ρ2 H2 (x1.trans x2) h2))
end
end Rf
set_option maxHeartbeats 4000000
namespace Rf
open PySem PySem.Spec PyProof.Rows L2
/-! ## sets of tuples of whole numbers, of lists of any length with few unlike items -/
theorem nodup_le {α : Type} [DecidableEq α] : ∀ (l u : List α), l.Nodup → (∀ x ∈ l, x ∈ u) → l.length ≤ u.length
  | [], _, _, _ => Nat.zero_le _
  | a :: l, u, nd, sub => by
    have nd' := List.nodup_cons.mp nd
    have au : a ∈ u := sub a (.head _)
    have step := nodup_le l (u.erase a) nd'.2 fun x hx => (List.mem_erase_of_ne fun e => nd'.1 (by rw [← e]; exact hx)).mpr (sub x (.tail _ hx))
    have le := List.length_erase_of_mem au
    have pos := List.length_pos_of_mem au
    simp only [List.length_cons]
    omega
/-- how far the loop is: what stood before stands, the set has got the first i items -/
structure Far (P : Program) (w : World) (S : Addr) (ks : List (Addr × List Int)) (h0 : Heap) (i : Nat) (h : Heap) : Prop where
  old : ∀ b o, h0.get? b = some o → h.get? b = some o
  got : ∃ L es ep t, SetTR P w h S L es ep t ∧ Got ks i L
section
variable {P : Program} {w : World} {A : Around} {E : Value → Shared → Prop}
theorem fill_set {I S : Addr} {fp wr : List Addr} {G : Array GenState → Array GenState → Prop} {ks : List (Addr × List Int)} {U : List (List Int)} {St : Nat → Shared → Prop} {R : Result → Shared → Prop} {h0 : Heap} {Pv : Nat → Value → Prop}
    (W : WalksS P w A.in1 I fp wr G ks.length Pv St) (hv : ∀ i v, Pv i v → ∃ p, ks[i]? = some p ∧ v = .ref p.1) (nS : S ∉ fp) (hU : ∀ p ∈ ks, p.2 ∈ U) (few : U.length < 63) (hk : ∀ p ∈ ks, IsT P w h0 p.2 p.1) (zS : h0.get? S = none) (zw : ∀ b ∈ wr, h0.get? b = none) (hu : A.in1.units < cLine) :
    ∀ (m i : Nat) (s : Shared), i + m = ks.length → St i s → Far P w S ks h0 i s.heap → (∀ s', Moved (S :: wr) G s s' → Far P w S ks h0 ks.length s'.heap → R (.ok (.ret .none)) s') →
      codeAny (model P w) A (.builtin "set.update.loop" ⟨[.ref S, .ref I], []⟩) R s := by
  have nSw : S ∉ wr := fun z => nS (W.sub _ z)
  have more : ∀ b ∈ wr, b ∈ S :: wr := fun b z => .tail _ z
  have hold : ∀ {s s' : Shared} {i : Nat}, Moved wr G s s' → Far P w S ks h0 i s.heap → Far P w S ks h0 i s'.heap := fun {s s' i} mv f => by
    have old' : ∀ b o, h0.get? b = some o → s'.heap.get? b = some o := fun b o e => mv.heap b o (fun z => by rw [zw b z] at e; exact nomatch e) (f.old b o e)
    obtain ⟨L, es, ep, t, T, g⟩ := f.got
    exact ⟨old', L, es, ep, t, T.keep (fun o e => mv.heap S o nSw e) fun p hp => isT_keep (hk p (List.mem_of_mem_take (g.sub p hp))) old', g⟩
  intro m
  induction m with
  | zero =>
    intro i s hi st f fin
    have hi' : i = ks.length := by omega
    subst hi'
    refine codeAny_builtin F.entry_set_update_loop (show wpAny (model P w) (A.under (.builtin "set.update.loop" ⟨[.ref S, .ref I], []⟩)) _ _ _ s from ?_)
    rw [Around.under_plainId F.plain_set_update_loop (⟨[.ref S, .ref I], []⟩ : Args)]
    exact (show wpAny (model P w) A.in1 (pyNext (.ref I) >>= _) _ _ s from wpAny_bind (W.done s _ _ st fun s' mv => wpAny_pure (fin s' (mv.mono more) (hold mv f))))
  | succ m ih =>
    intro i s hi st f fin
    have lt : i < ks.length := by omega
    refine codeAny_builtin F.entry_set_update_loop (show wpAny (model P w) (A.under (.builtin "set.update.loop" ⟨[.ref S, .ref I], []⟩)) _ _ _ s from ?_)
    rw [Around.under_plainId F.plain_set_update_loop (⟨[.ref S, .ref I], []⟩ : Args)]
    refine (show wpAny (model P w) A.in1 (pyNext (.ref I) >>= _) _ _ s from wpAny_bind (W.item i s _ _ lt st fun v s' pv st' mv => ?_))
    obtain ⟨p, hp, rfl⟩ := hv i v pv
    have f' := hold mv f
    obtain ⟨L, es, ep, t, T, g⟩ := f'.got
    have pm : p ∈ ks := List.mem_of_getElem? hp
    have hx : IsT P w s'.heap p.2 p.1 := isT_keep (hk p pm) f'.old
    have size : L.length + 1 < 64 := by
      have q := nodup_le (L.map (·.2)) U T.nd fun x hx => by
        obtain ⟨y, hy, rfl⟩ := List.mem_map.mp hx
        exact hU y (List.mem_of_mem_take (g.sub y hy))
      rw [List.length_map] at q
      omega
    refine (show wpAny (model P w) A.in1 (holding [Value.ref p.1] (setAdd S (.ref p.1)) >>= _) _ _ s' from wpAny_bind (wpAny_holding ?_))
    unfold setAdd
    refine wpAny_holding (wpAny_bind (wpAny_pyHash_tuple hu hx (add_at (s := { s' with toks := s'.toks + (p.2.length + 1) }) T hx hu size fun b h' L' es' ep' t' sb T' c1 c2 => ?_)))
    have g' : Got ks (i + 1) L' := (Classical.em (p.2 ∈ L.map (·.2))).elim (fun c => by rw [c1 c]; exact g.same hp c) fun c => g.more hp (c2 c)
    have old' : ∀ b o, h0.get? b = some o → h'.get? b = some o := fun b o e => (sb.2 b fun z => by rw [z, zS] at e; exact nomatch e).trans (f'.old b o e)
    have st2 := W.frame (i + 1) s' h' (s'.toks + (p.2.length + 1)) st' (Nat.le_add_right _ _) fun b hb o e => by
      rw [sb.2 b fun z => nS (z ▸ hb)]
      exact e
    refine wpAny_pure ⟨plainId_quiet F.plain_set_update_loop (⟨[.ref S, .ref I], []⟩ : Args), ih (i + 1) { s' with heap := h', toks := s'.toks + (p.2.length + 1) } (by omega) st2 ⟨old', L', es', ep', t', T', g'⟩ fun s2 mv2 f2 => fin s2 ?_ f2⟩
    exact Moved.trans W.gtrans ((mv.mono more).then_heap (Nat.le_add_right _ _) fun b o hb e => by
      rw [sb.2 b fun z => hb (z ▸ .head _)]
      exact e) mv2
/-- what set(xs) tells -/
def Told (P : Program) (w : World) (ks : List (Addr × List Int)) (a : Addr) (s s' : Shared) : Prop := ∃ h' tk, s' = { s with heap := h', toks := tk } ∧ Far P w a ks s.heap ks.length h'
theorem call_set_few {s : Shared} {l : Addr} {items : Array Value} {ks : List (Addr × List Int)} {U : List (List Int)} {Q : Value → Shared → Prop} (hh : A.handled = none) (hl : s.heap.IsList l items) (hit : items.toList = ks.map fun p => Value.ref p.1)
    (hk : ∀ p ∈ ks, IsT P w s.heap p.2 p.1) (hU : ∀ p ∈ ks, p.2 ∈ U) (few : U.length < 63) (hu : A.units + 3 < cLine) (h : ∀ s', Told P w ks s.heap.objs.size s s' → Q (.ref s.heap.objs.size) s') :
    wpAny (model P w) A (call (.type "set") [.ref l]) Q E s := by
  have hsz : items.size = ks.length := by
    rw [← Array.length_toList, hit, List.length_map]
  have m1 := F.called_set.mro
  obtain ⟨c, tl, m1⟩ := m1
  have m2 := F.called_set.made
  have m3 := F.called_set.sub
  refine wpAny_call (codeAny_of_tree (show wpAny (model P w) A.in1 (callAny (.type "set") ⟨[.ref l], []⟩) _ _ s from wpAny_pure ⟨Code.quiet_builtin _ (by decide +kernel), codeAny_builtin F.entry_type_call ?_⟩))
  rw [Around.under_plain (weight_type_call_type "set" [.ref l] []) rfl]
  have m4 := F.called_set.notType
  have m5 := F.called_set.canCreate
  have m6 := F.typeCall_set_1 (.ref l)
  repeat (any_goals (first | assumption | wp_step))
  let o0 : Obj := { cls := .type "set", dict := none, data := .set #[] 0 (.fresh 0 0 (!w.params.followText "set-order")) }
  refine codeAny_mono (code_set_led1 (.ref l) (E := E) (Q₁ := fun v s1 => v = .ref s.heap.objs.size ∧ s1 = { s with heap := s.heap.push o0 }) ⟨rfl, rfl⟩) fun r s1 hr => ?_
  match r, hr with
  | .error e, hr => exact hr
  | .ok .next, hr => exact hr.elim
  | .ok .brk, hr => exact hr.elim
  | .ok .cont, hr => exact hr.elim
  | .ok (.ret v), ⟨ev, es⟩ =>
    subst ev es
    have at0 : (s.heap.push o0).get? s.heap.objs.size = some o0 := Heap.get?_push_size _ rfl
    have ty0 : Shared.TypeIs { s with heap := s.heap.push o0 } (.ref s.heap.objs.size) "set" := ⟨_, at0, rfl⟩
    have m7 := F.called_set.init.lookup
    have m8 := F.called_set.init.bind (.ref s.heap.objs.size)
    repeat (any_goals (first | assumption | wp_step))
    refine codeAny_mono (codeAny_call_builtin (R := wants (fun r s2 => r = .none ∧ Told P w ks s.heap.objs.size s s2) E) F.called_set.init.plain F.entry_set_init (check_set_init_1 ty0 ?_)) fun r2 s2 hr2 => ?_
    · obtain ⟨⟨ocls, odict, odata, oslots⟩, hol, hcl, nl, hdl⟩ := hl
      simp only at hcl hdl
      subst hcl hdl
      have at1 : (s.heap.push o0).get? l = some { cls := .type "list", dict := odict, data := .seq items nl, slots := oslots } := Heap.get?_push_of_some _ hol
      have m9 := F.sub_list_set
      have m10 := F.sub_list_frozenset
      have m11 : (Value.type "list" == Value.type "dict") = false := by decide
      have l1 : (s.heap.push o0).IsList l items := ⟨_, at1, rfl, nl, rfl⟩
      unfold Builtin.«set.__init__» noKeywords Builtin.Frozenset.updateFrom
      generalize hPI : pyIter = PI
      wp_walk
      subst hPI
      refine wpAny_pyIter_list l1 (wpAny_bind (wpAny_runValue ?_))
      have lt1 : l < s.heap.objs.size := Heap.lt_size hol
      have z1 : (s.heap.push o0).objs.size = s.heap.objs.size + 1 := Heap.size_push ..
      have none_of : ∀ b, s.heap.objs.size ≤ b → s.heap.get? b = none := fun b hb => Option.eq_none_iff_forall_not_mem.mpr fun o e => Nat.lt_irrefl _ (Nat.lt_of_lt_of_le (Heap.lt_size (show s.heap.get? b = some o from e)) hb)
      have nI : l ≠ (s.heap.push o0).objs.size := by
        rw [z1]
        exact Nat.ne_of_lt (Nat.lt_succ_of_lt lt1)
      have nS : s.heap.objs.size ∉ [(s.heap.push o0).objs.size, l] := by
        rw [z1]
        simp only [List.mem_cons, List.not_mem_nil, or_false, not_or]
        exact ⟨Nat.ne_of_lt (Nat.lt_succ_self _), Nat.ne_of_gt lt1⟩
      have val : ∀ (i : Nat) (v : Value), items[i]? = some v → ∃ p, ks[i]? = some p ∧ v = .ref p.1 := fun i v hv => by
        rw [← Array.getElem?_toList, hit, List.getElem?_map] at hv
        cases e : ks[i]? with
        | none => rw [e] at hv; exact nomatch hv
        | some p => rw [e] at hv; exact ⟨p, rfl, (Option.some.inj hv).symm⟩
      have hd3 : A.in1.in1.in1.handled = none := by simp [hh]
      have W0 := (Walks.list (prog := P) (w := w) (A := A.in1.in1.in1) hd3 _ l nI items).toS
      rw [hsz] at W0
      refine fill_set W0 val nS hU few hk (none_of _ (Nat.le_refl _)) (fun b hb => none_of b (by
        rw [List.mem_singleton.mp hb, z1]
        exact Nat.le_succ _)) hu ks.length 0 _ (by omega) ⟨⟨_, Heap.get?_push_size _ rfl, rfl, rfl⟩, l1.push _⟩ ⟨fun b o e => Heap.get?_push_of_some _ (Heap.get?_push_of_some _ e), [], #[], 0, _, setTR_fresh (Heap.get?_push_of_some _ at0), Got.zero ks⟩ fun s' mv f => ?_
      obtain ⟨h', g2, d', tk', os'⟩ := s'
      obtain rfl : g2 = s.gens := mv.gens
      obtain rfl : d' = s.drawn := mv.drawn
      obtain rfl : os' = s.os := mv.os
      exact wpAny_pure (wpAny_pure (show wants (fun r s2 => r = Value.none ∧ Told P w ks s.heap.objs.size s s2) E (.ok (.ret .none)) _ from ⟨rfl, h', tk', rfl, f⟩))
    · match r2, hr2 with
      | .error e, hr2 => exact hr2
      | .ok .next, hr2 => exact hr2.elim
      | .ok .brk, hr2 => exact hr2.elim
      | .ok .cont, hr2 => exact hr2.elim
      | .ok (.ret v2), ⟨e2, t2⟩ =>
        subst e2
        repeat (any_goals (first | assumption | wp_step))
        exact h _ t2
end
end Rf
set_option maxHeartbeats 4000000
namespace Rf
open PySem PySem.Spec PyProof.Rows L2
/-! ## the order of lists of whole numbers -/
def ltL : List Int → List Int → Bool
  | [], [] => false
  | [], _ :: _ => true
  | _ :: _, [] => false
  | a :: x, b :: y => if a = b then ltL x y else decide (a < b)
theorem ltL_asym : ∀ x y : List Int, ltL x y = true → ltL y x = false
  | [], [], h => by cases h
  | [], _ :: _, _ => rfl
  | _ :: _, [], h => by cases h
  | a :: x, b :: y, h => by
    unfold ltL at h ⊢
    by_cases e : a = b
    · rw [if_pos e] at h
      rw [if_pos e.symm]
      exact ltL_asym x y h
    · rw [if_neg e, decide_eq_true_eq] at h
      rw [if_neg (Ne.symm e), decide_eq_false_iff_not]
      omega
theorem ltL_ntr : ∀ x y z : List Int, ltL y x = false → ltL z y = false → ltL z x = false
  | [], y, z, h1, h2 => by
    cases z with
    | nil => rfl
    | cons => rfl
  | a :: x, [], z, h1, h2 => by cases h1
  | a :: x, b :: y, [], h1, h2 => by cases h2
  | a :: x, b :: y, c :: z, h1, h2 => by
    unfold ltL at h1 h2 ⊢
    by_cases e1 : b = a
    · rw [if_pos e1] at h1
      by_cases e2 : c = b
      · rw [if_pos e2] at h2
        rw [if_pos (e2.trans e1)]
        exact ltL_ntr x y z h1 h2
      · rw [if_neg e2, decide_eq_false_iff_not] at h2
        rw [if_neg (fun e => e2 (e.trans e1.symm)), decide_eq_false_iff_not]
        omega
    · rw [if_neg e1, decide_eq_false_iff_not] at h1
      by_cases e2 : c = b
      · rw [if_neg (fun e => e1 (e2.symm.trans e)), decide_eq_false_iff_not]
        omega
      · rw [if_neg e2, decide_eq_false_iff_not] at h2
        rw [if_neg (fun e => by omega), decide_eq_false_iff_not]
        omega
theorem ltL_tot : ∀ x y : List Int, ltL x y = false → ltL y x = false → x = y
  | [], [], _, _ => rfl
  | [], _ :: _, h, _ => by cases h
  | _ :: _, [], _, h => by cases h
  | a :: x, b :: y, h1, h2 => by
    unfold ltL at h1 h2
    by_cases e : a = b
    · rw [if_pos e] at h1
      rw [if_pos e.symm] at h2
      rw [e, ltL_tot x y h1 h2]
    · rw [if_neg e, decide_eq_false_iff_not] at h1
      rw [if_neg (Ne.symm e), decide_eq_false_iff_not] at h2
      omega
theorem ltL_irr (x : List Int) : ltL x x = false := by
  cases h : ltL x x with
  | false => rfl
  | true => exact (ltL_asym x x h).symm.trans h |>.symm ▸ rfl
theorem ltL_tr {x y z : List Int} (h1 : ltL x y = true) (h2 : ltL y z = true) : ltL x z = true := by
  cases h : ltL x z with
  | true => rfl
  | false =>
    have q := ltL_ntr y z x (ltL_asym _ _ h2) h
    rw [h1] at q
    cases q
/-- put in, unless it stands there -/
def insL (k : List Int) : List (List Int) → List (List Int)
  | [] => [k]
  | x :: l => if ltL k x then k :: x :: l else if k = x then x :: l else x :: insL k l
def srtL (ks : List (List Int)) : List (List Int) := ks.foldr insL []
theorem mem_insL {k x : List Int} : ∀ {l : List (List Int)}, x ∈ insL k l ↔ x = k ∨ x ∈ l
  | [] => by simp [insL]
  | y :: l => by
    unfold insL
    by_cases h1 : ltL k y = true
    · rw [if_pos h1]
      simp
    · rw [if_neg h1]
      by_cases h2 : k = y
      · rw [if_pos h2, h2]
        simp
      · rw [if_neg h2, List.mem_cons, mem_insL (l := l), List.mem_cons]
        constructor
        · rintro (h | h | h)
          · exact .inr (.inl h)
          · exact .inl h
          · exact .inr (.inr h)
        · rintro (h | h | h)
          · exact .inr (.inl h)
          · exact .inl h
          · exact .inr (.inr h)
theorem mem_srtL {x : List Int} : ∀ {ks : List (List Int)}, x ∈ srtL ks ↔ x ∈ ks
  | [] => Iff.rfl
  | k :: ks => by
    show x ∈ insL k (srtL ks) ↔ _
    rw [mem_insL, mem_srtL (ks := ks), List.mem_cons]
def StrL (l : List (List Int)) : Prop := l.Pairwise fun x y => ltL x y = true
theorem str_insL {k : List Int} : ∀ {l : List (List Int)}, StrL l → StrL (insL k l)
  | [], _ => List.pairwise_singleton _ _
  | y :: l, h => by
    unfold insL
    have h' := List.pairwise_cons.mp h
    by_cases h1 : ltL k y = true
    · rw [if_pos h1]
      refine List.pairwise_cons.mpr ⟨fun z hz => ?_, h⟩
      rcases List.mem_cons.mp hz with rfl | hz
      · exact h1
      · exact ltL_tr h1 (h'.1 z hz)
    · rw [if_neg h1]
      by_cases h2 : k = y
      · rw [if_pos h2]
        exact h
      · rw [if_neg h2]
        refine List.pairwise_cons.mpr ⟨fun z hz => ?_, str_insL h'.2⟩
        rcases mem_insL.mp hz with rfl | hz
        · cases q : ltL y z with
          | true => rfl
          | false => exact absurd (ltL_tot _ _ (Bool.eq_false_iff.mpr h1) q) h2
        · exact h'.1 z hz
theorem str_srtL : ∀ ks : List (List Int), StrL (srtL ks)
  | [] => .nil
  | _ :: ks => str_insL (str_srtL ks)
theorem StrL.nodup {l : List (List Int)} (h : StrL l) : l.Nodup := h.imp fun {a b} q e => by
  rw [e, ltL_irr] at q
  cases q
/-- in one order there is one list -/
theorem StrL.uniq : ∀ {l m : List (List Int)}, StrL l → StrL m → (∀ x, x ∈ l ↔ x ∈ m) → l = m
  | [], [], _, _, _ => rfl
  | [], y :: m, _, _, h => absurd ((h y).mpr (.head _)) (by simp)
  | x :: l, [], _, _, h => absurd ((h x).mp (.head _)) (by simp)
  | x :: l, y :: m, h1, h2, h => by
    have p1 := List.pairwise_cons.mp h1
    have p2 := List.pairwise_cons.mp h2
    have e : x = y := by
      rcases List.mem_cons.mp ((h x).mp (.head _)) with e | hx
      · exact e
      · rcases List.mem_cons.mp ((h y).mpr (.head _)) with e | hy
        · exact e.symm
        · have a := p1.1 y hy
          have b := p2.1 x hx
          rw [ltL_asym _ _ a] at b
          cases b
    subst e
    rw [StrL.uniq p1.2 p2.2 fun z => ?_]
    have nx : ∀ {k : List (List Int)}, (∀ w ∈ k, ltL x w = true) → x ∉ k := fun hk hm => by
      have := hk x hm
      rw [ltL_irr] at this
      cases this
    constructor
    · intro hz
      rcases List.mem_cons.mp ((h z).mp (.tail _ hz)) with e | q
      · exact absurd (e ▸ hz) (nx p1.1)
      · exact q
    · intro hz
      rcases List.mem_cons.mp ((h z).mpr (.tail _ hz)) with e | q
      · exact absurd (e ▸ hz) (nx p2.1)
      · exact q
/-! ## sorted -/
theorem swoL (k : Value → List Int) : SrtO.Swo fun v u => ltL (k v) (k u) := ⟨fun x y => ltL_asym _ _, fun x y z => ltL_ntr _ _ _⟩
section
variable {P : Program} {w : World} {A : Around} {E : Value → Shared → Prop} {s : Shared}
theorem lex_walk {b : Bool} {Q : Bool → Shared → Prop} {xs : List Value} {ns : List Int} (hx : IntsAre xs ns) : ∀ {ys : List Value} {ms : List Int} (i : Nat), IntsAre ys ms → ns.length = ms.length → Q (ltL ns ms) s →
    PySem.W.KatLex P w A b false Q (xs.zip ys) i s := by
  induction hx with
  | nil =>
    intro ys ms i hy hl q
    cases hy with
    | nil => exact PySem.W.kat_nil q
    | cons => cases hl
  | cons p t hx ih =>
    intro ys ms i hy hl q
    cases hy with
    | nil => cases hl
    | cons p' t' hy =>
      refine PySem.W.kat_cons (wpAny_eqBool_int (PySem.W.kat_go (fun e => PySem.W.kat_yes (ih (i + 1) hy (Nat.succ.inj hl) ?_)) fun e => PySem.W.kat_no (TS.oneLt_ints _ ?_)))
      · have e' : p = p' := by simpa using e
        unfold ltL at q
        rw [if_pos e'] at q
        exact q
      · have e' : ¬ p = p' := by simpa using e
        unfold ltL at q
        rw [if_neg e'] at q
        exact q
/-- tuples of d whole numbers -/
def Tupd (h : Heap) (d : Nat) (k : Value → List Int) (vs : List Value) : Prop := ∀ v ∈ vs, TS.TupInts h v (k v) ∧ (k v).length = d
theorem cmpL {d : Nat} {k : Value → List Int} {vs : List Value} (h : Tupd s.heap d k vs) : SrtO.Cmp P w A s (tuples' true) (fun p => p.1 ∈ vs) (SrtO.lt2 fun v u => ltL (k v) (k u)) := by
  intro p q hp hq
  obtain ⟨⟨a, xs, e1, ⟨o, ho, hc, n, hd⟩, i1⟩, l1⟩ := h _ hp
  obtain ⟨⟨a', xs', e2, ⟨o', ho', hc', n', hd'⟩, i2⟩, l2⟩ := h _ hq
  show wpAny (model P w) A (keyLt' (tuples' true) p.1 q.1) (fun r s' => s' = s ∧ r = ltL (k p.1) (k q.1)) (fun _ _ => False) s
  generalize hk1 : k p.1 = K1 at *
  generalize hk2 : k q.1 = K2 at *
  rw [e1, e2]
  refine PySem.W.kat_lt ho hd ho' hd' ?_
  have n1 := i1.length
  have n2 := i2.length
  rw [Array.length_toList] at n1 n2
  rw [show decide (xs.size < xs'.size) = false from decide_eq_false (by omega)]
  exact lex_walk i1 0 i2 (by omega) ⟨rfl, rfl⟩
theorem firstsL {h : Heap} {d : Nat} {k : Value → List Int} (hd : 1 ≤ d) : ∀ vs : List Value, Tupd h d k vs → ∃ fs, PySem.W.KatTups h vs fs ∧ fs.length = vs.length ∧ ∀ f ∈ fs, ∃ n t, f = Value.int n t
  | [], _ => ⟨[], PySem.W.KatTups.nil, rfl, nofun⟩
  | v :: vs, x => by
    obtain ⟨fs, c1, c2, c3⟩ := firstsL hd vs fun u hu => x u (.tail _ hu)
    obtain ⟨⟨a, xs, e, ⟨o, ho, hc, n, hdt⟩, i⟩, hl⟩ := x v (.head _)
    subst e
    obtain ⟨cls, sl, dt, nn⟩ := o
    have hx : ∃ y ys, xs.toList = y :: ys := by
      cases q : xs.toList with
      | nil =>
        have := i.length
        rw [q] at this
        simp at this
        omega
      | cons y ys => exact ⟨y, ys, rfl⟩
    obtain ⟨y, ys, e⟩ := hx
    obtain ⟨m, t, hy⟩ := i.all y (by rw [e]; exact .head _)
    refine ⟨y :: fs, PySem.W.KatTups.cons ho hc hdt (by rw [← Array.getElem?_toList, e]; rfl) c1, by simp [c2], fun f hf => ?_⟩
    rcases List.mem_cons.mp hf with rfl | hf
    · exact ⟨m, t, hy⟩
    · exact c3 f hf
theorem sortableL {a : Addr} {vs : List Value} {d : Nat} {k : Value → List Int} (hd : 1 ≤ d) (h0 : 0 < vs.length) (h : Tupd s.heap d k vs) (ha : ∀ o, s.heap.get? a = some o → o.cls ≠ .type "tuple") : SrtO.SortableO P w A s a vs fun v u => ltL (k v) (k u) := by
  intro h' keep
  have h2 : Tupd h' d k vs := fun v hv => ⟨(h v hv).1.keeps fun b o e c => keep b o (fun z => ha o (z ▸ e) c) e, (h v hv).2⟩
  obtain ⟨fs, c1, c2, c3⟩ := firstsL hd vs h2
  refine ⟨tuples' true, fun Q E hq => PySem.W.kat_kind (T := .type "int") c1 (by omega) (fun f hf => ?_) (by rfl) ?_, cmpL h2⟩
  · obtain ⟨n, t, rfl⟩ := c3 f hf
    exact PySem.W.Looks.now
  · rw [show (Value.type "int" != Value.type "tuple") = true by decide +kernel]
    exact hq
theorem tup_ints {h : Heap} {b : Addr} {x : List Int} (i : IsT P w h x b) : TS.TupInts h (.ref b) x := by
  obtain ⟨o, items, n, h1, h2, h3, h4⟩ := i
  refine ⟨b, items, rfl, ⟨o, h1, h2, n, h3⟩, ?_⟩
  clear h3
  generalize items.toList = l at h4
  induction h4 with
  | nil => exact .nil
  | cons q _ ih =>
    obtain ⟨t, rfl⟩ := Value.isInt_shape q
    exact .cons _ t ih
theorem sorted_set_lex {a : Addr} {L : List (Addr × List Int)} {es : Array (Int × Value)} {ep : Nat} {t : SetTable} {Q : Value → Shared → Prop} (R : SetTR P w s.heap a L es ep t) (hh : A.handled = none) {d : Nat} (hd : 1 ≤ d) (hl : ∀ p ∈ L, p.2.length = d)
    (hQ : ∀ s' p (out : Array Value) (c : Nat) (M : List (Addr × List Int)), (∀ b o, s.heap.get? b = some o → s'.heap.get? b = some o) → s'.gens = s.gens → s'.os = s.os → s.heap.objs.size ≤ p →
      s'.heap.get? p = some (seqObj "list" out c) → out.toList = M.map (fun q => Value.ref q.1) → M.Perm L → StrL (M.map (·.2)) → Q (.ref p) s') :
    wpAny (model P w) A (call (.builtin "sorted") [.ref a]) Q E s := by
  obtain ⟨o, ho, hex, hdt⟩ := R.ob
  have few := R.few
  have sz := R.size
  refine Calls.call_function_entry kind_sorted plain_sorted entry_sorted (args_sorted1 _) ?_
  unfold Builtin.«sorted»
  refine wpAny_bind (m := checkCount "sorted" 1 1 _) (wpAny_pure (wpAny_bind (collect_set (A := A.in1) hh ⟨o, ho, hex.1, hdt⟩ R.fits (by unfold scanBound; omega) R.tab.ris R.led fun s1 vs k1 hz g1 o1 pm => ?_)))
  have rows : es.toList.map (·.2) = L.map fun q => Value.ref q.1 := by
    rw [R.rows]
    unfold rowsOf
    rw [List.map_map]
    rfl
  rw [rows] at pm
  have len : vs.length = L.length := by rw [pm.length_eq, List.length_map]
  have z64 : vs.length ≤ sizeLine := by rw [sizeLine_eq]; omega
  refine wpAny_bind (wpAny_newList ?_ z64)
  -- the address of a key
  have one : ∀ q ∈ L, ∀ r ∈ L, q.1 = r.1 → q = r := fun q hq r hr e => by
    have t1 := R.tup q hq
    rw [e] at t1
    exact Prod.ext e (t1.inj (R.tup r hr))
  let kOf : Value → List Int := fun v => match L.find? (fun q => decide (Value.ref q.1 = v)) with
    | some q => q.2
    | none => []
  have kq : ∀ q ∈ L, kOf (.ref q.1) = q.2 := fun q hq => by
    show (match L.find? (fun r => decide (Value.ref r.1 = Value.ref q.1)) with | some r => r.2 | none => []) = q.2
    cases f : L.find? (fun r => decide (Value.ref r.1 = Value.ref q.1)) with
    | none =>
      have := List.find?_eq_none.mp f q hq
      simp at this
    | some r =>
      have e : Value.ref r.1 = Value.ref q.1 := by simpa using List.find?_some f
      have rm := List.mem_of_find?_eq_some f
      rw [one r rm q hq (Value.ref.inj e)]
  have inL : ∀ v ∈ vs, ∃ q ∈ L, v = Value.ref q.1 := fun v hv => by
    obtain ⟨q, hq, e⟩ := List.mem_map.mp (pm.mem_iff.mp hv)
    exact ⟨q, hq, e.symm⟩
  have hoL : (s1.heap.push (seqObj "list" vs.toArray 0)).get? s1.heap.objs.size = some (seqObj "list" vs.toArray 0) := Heap.get?_push_size _ rfl
  have td : Tupd (s1.heap.push (seqObj "list" vs.toArray 0)) d kOf vs := fun v hv => by
    obtain ⟨q, hq, rfl⟩ := inL v hv
    rw [kq q hq]
    exact ⟨tup_ints (P := P) (w := w) (isT_keep (R.tup q hq) fun b u e => Heap.get?_push_of_some _ (k1 b u e)), hl q hq⟩
  refine wpAny_bind (wpAny_holding (wpAny_call_entry (s := { s1 with heap := s1.heap.push (seqObj "list" vs.toArray 0) }) slot_list_sort ⟨_, hoL, rfl⟩ entry_list_sort (SrtO.list_sort_ord (swoL kOf) hoL z64 (fun h2 => sortableL hd (by omega) td fun o' e c => ?_) fun out hs hb => ⟨_, rfl, ?_⟩) (args_list_sort _)))
  · rw [show o' = seqObj "list" vs.toArray 0 from Option.some.inj (e.symm.trans hoL)] at c
    exact absurd (Value.type.inj c) (by decide)
  · -- what comes out
    have back : ∀ l : List Value, (∀ v ∈ l, ∃ q ∈ L, v = Value.ref q.1) → ∃ M : List (Addr × List Int), l = M.map (fun q => Value.ref q.1) ∧ ∀ q ∈ M, q ∈ L := by
      intro l
      induction l with
      | nil => intro _; exact ⟨[], rfl, nofun⟩
      | cons v l ih =>
        intro hv
        obtain ⟨q, hq, rfl⟩ := hv v (.head _)
        obtain ⟨M, e, hM⟩ := ih fun u hu => hv u (.tail _ hu)
        exact ⟨q :: M, by rw [List.map_cons, e], fun r hr => (List.mem_cons.mp hr).elim (fun z => z ▸ hq) (hM r)⟩
    obtain ⟨M, eM, hM⟩ := back out fun v hv => inL v (hb.perm.mem_iff.mp hv)
    have ndL : L.Nodup := nodup_of_map R.nd
    have refs : (L.map fun q => Value.ref q.1).Nodup := List.pairwise_map.mpr (List.Pairwise.imp_of_mem (fun {q r} hq hr ne e => ne (one q hq r hr (Value.ref.inj e))) ndL)
    have pmM : (M.map fun q => Value.ref q.1).Perm (L.map fun q => Value.ref q.1) := by
      rw [← eM]
      exact hb.perm.trans pm
    have ndM : M.Nodup := nodup_of_map (pmM.nodup_iff.mpr refs)
    have permM : M.Perm L := (List.perm_ext_iff_of_nodup ndM ndL).mpr fun q => ⟨hM q, fun hq => by
      obtain ⟨r, hr, e⟩ := List.mem_map.mp (pmM.mem_iff.mpr (List.mem_map.mpr ⟨q, hq, rfl⟩))
      rw [← one r (hM r hr) q hq (Value.ref.inj e)]
      exact hr⟩
    have keysN : (M.map (·.2)).Nodup := (permM.map (·.2)).nodup_iff.mpr R.nd
    have srt : StrL (M.map (·.2)) := by
      have q : M.Pairwise fun q r => ltL r.2 q.2 = false := by
        rw [eM] at hs
        refine List.Pairwise.imp_of_mem (fun {q r} hq hr h => ?_) (List.pairwise_map.mp hs)
        rw [← kq q (hM q hq), ← kq r (hM r hr)]
        exact h
      refine List.pairwise_map.mpr ?_
      have both := q.and (List.pairwise_map.mp keysN)
      refine both.imp fun {q r} h => ?_
      cases c : ltL q.2 r.2 with
      | true => rfl
      | false => exact absurd (ltL_tot _ _ c h.1) h.2
    obtain ⟨c, hc⟩ := sortedHeap_at (vs := vs) (out := out.toArray) hoL
    refine wpAny_pure ⟨_, rfl, hQ _ s1.heap.objs.size out.toArray c M (fun b u e => ?_) g1 o1 hz hc (by simpa using eM) permM srt⟩
    have q := k1 b u e
    have lt := Heap.lt_size q
    show (sortedHeap (s1.heap.push (seqObj "list" vs.toArray 0)) s1.heap.objs.size vs out.toArray).get? b = some u
    rw [sortedHeap_old (Nat.ne_of_lt lt) (by rw [size_push']; exact Nat.lt_succ_of_lt lt)]
    exact Heap.get?_push_of_some _ q
end
end Rf
set_option maxHeartbeats 4000000
namespace Rf
open PySem PySem.Spec L2
open PyProof.Rows hiding St
/-! ## sorted(set(..)) of tuples of whole numbers -/
def intsT : List D → Option (List Int)
  | [] => some []
  | .int i :: r => match intsT r with
    | some l => some (i :: l)
    | none => none
  | _ :: _ => none
theorem intsT_eq : ∀ {ds : List D} {l : List Int}, intsT ds = some l → ds = l.map D.int
  | [], l, h => by cases h; rfl
  | .int i :: r, l, h => by
    unfold intsT at h
    cases e : intsT r with
    | none => rw [e] at h; cases h
    | some m => rw [e] at h; cases h; rw [intsT_eq e]; rfl
  | .non :: _, _, h => by cases h
  | .bl _ :: _, _, h => by cases h
  | .str _ :: _, _, h => by cases h
  | .tup _ :: _, _, h => by cases h
  | .lst _ :: _, _, h => by cases h
  | .ro _ :: _, _, h => by cases h
  | .dct _ :: _, _, h => by cases h
  | .ref _ :: _, _, h => by cases h
  | .fn _ :: _, _, h => by cases h
  | .err _ _ :: _, _, h => by cases h
theorem intsT_map (l : List Int) : intsT (l.map D.int) = some l := by
  induction l with
  | nil => rfl
  | cons i l ih => show (match intsT (l.map D.int) with | some m => some (i :: m) | none => none) = _; rw [ih]
def keysD : List D → Option (List (List Int))
  | [] => some []
  | .tup ds :: r => match intsT ds, keysD r with
    | some k, some l => some (k :: l)
    | _, _ => none
  | _ :: _ => none
def kD (k : List Int) : D := .tup (k.map .int)
theorem keysD_map (l : List (List Int)) : keysD (l.map kD) = some l := by
  induction l with
  | nil => rfl
  | cons k l ih =>
    show (match intsT (k.map D.int), keysD (l.map kD) with | some k, some l => some (k :: l) | _, _ => none) = _
    rw [ih, intsT_map]
def okK (ks : List (List Int)) : Bool := (match ks with
  | [] => true
  | k :: _ => decide (1 ≤ k.length) && ks.all fun x => decide (x.length = k.length)) && decide ((srtL ks).length < 63)
theorem okK_ok {ks : List (List Int)} (h : okK ks = true) : (∃ d, 1 ≤ d ∧ ∀ k ∈ ks, k.length = d) ∧ (srtL ks).length < 63 := by
  unfold okK at h
  rw [Bool.and_eq_true, decide_eq_true_eq] at h
  refine ⟨?_, h.2⟩
  cases ks with
  | nil => exact ⟨1, Nat.le_refl _, nofun⟩
  | cons k ks =>
    have h1 := h.1
    rw [Bool.and_eq_true, decide_eq_true_eq, List.all_eq_true] at h1
    exact ⟨k.length, h1.1, fun x hx => of_decide_eq_true (h1.2 x hx)⟩
def opSrt (m : Bool) : Op1 := fun x s => match seqD x s with
  | some ds => match keysD ds with
    | some ks => if okK ks then newL m ((srtL ks).map kD) s else .bad
    | none => .bad
  | none => .bad
/-- the items' places and numbers -/
theorem keysD_rps {K : Kx} {ρ : List Addr} {H : Hp} : ∀ {ds : List D} {ks : List (List Int)} {ys : List V}, keysD ds = some ks → Rps K ρ H ys ds →
    ∃ kas : List (Addr × List Int), ys = kas.map (fun p => V.ref p.1) ∧ kas.map (·.2) = ks ∧ ∀ p ∈ kas, FT K ρ H p.1 (p.2.map V.int) ∧ p.2.length ≤ sizeLine
  | [], ks, ys, h, r => by
    cases h
    cases r
    exact ⟨[], rfl, rfl, nofun⟩
  | d :: ds, ks, ys, h, r => by
    cases r with
    | cons r1 r2 =>
      cases d with
      | tup es =>
        unfold keysD at h
        cases e1 : intsT es with
        | none => rw [e1] at h; cases h
        | some k =>
          cases e2 : keysD ds with
          | none => rw [e1, e2] at h; cases h
          | some l =>
            rw [e1, e2] at h
            cases h
            obtain ⟨kas, q1, q2, q3⟩ := keysD_rps e2 r2
            have e := intsT_eq e1
            subst e
            cases r1 with
            | tup f z q =>
              have e3 := Rps.ints q
              subst e3
              refine ⟨(_, k) :: kas, by rw [List.map_cons, ← q1], by rw [List.map_cons, q2], fun p hp => ?_⟩
              rcases List.mem_cons.mp hp with rfl | hp
              · exact ⟨f, by simpa using z⟩
              · exact q3 p hp
      | _ => cases h
theorem rps_keys {K : Kx} {ρ : List Addr} {H : Hp} : ∀ {M : List (Addr × List Int)}, (∀ p ∈ M, FT K ρ H p.1 (p.2.map V.int) ∧ p.2.length ≤ sizeLine) → Rps K ρ H (M.map fun p => V.ref p.1) ((M.map (·.2)).map kD)
  | [], _ => .nil
  | p :: M, h => .cons (.tup (h p (.head _)).1 (by simpa using (h p (.head _)).2) (Rps.of_ints _)) (rps_keys fun q hq => h q (.tail _ hq))
def rSetF (K : PySem.W.Frag) (P : Program) (w : World) : List V → Hp → VK → Prop := fun xs H Q => ∃ (l : Addr) (ks : List (Addr × List Int)) (U : List (List Int)), xs = [V.ref l] ∧ SqL K H l (ks.map fun p => V.ref p.1) ∧ (∀ p ∈ ks, SqT K H p.1 (p.2.map V.int)) ∧ (∀ p ∈ ks, p.2 ∈ U) ∧ U.length < 63 ∧
  ∀ a L, H a = none → (∀ p ∈ L, p ∈ ks) → (∀ p ∈ ks, p.2 ∈ L.map (·.2)) → Q (.ref a) (upd H a (SetTO P w a L))
def rSrtS (K : PySem.W.Frag) (P : Program) (w : World) : List V → Hp → VK → Prop := fun vs H Q => ∃ (a : Addr) (L : List (Addr × List Int)) (d : Nat), vs = [V.ref a] ∧ H a = some (SetTO P w a L) ∧ (∀ p ∈ L, SqT K H p.1 (p.2.map V.int)) ∧ 1 ≤ d ∧ (∀ p ∈ L, p.2.length = d) ∧
  ∀ (M : List (Addr × List Int)) (p : Addr), M.Perm L → StrL (M.map (·.2)) → H p = none → Q (.ref p) (upd H p (.lst (M.map fun q => V.ref q.1)))
section
variable {X : Cx} {c : Ci} {G : Gi} {F : Fn}
theorem cr_setF (hc : X.calm = true) (hu : X.A.units + 64 < cLine) : CallR X (.type "set") (rSetF X.K X.prog X.w) := by
  intro pins s σ H xs us Q I r h
  obtain ⟨l, ks, U, rfl, hl, hk, hU, few, q⟩ := h
  rw [Vals.ref1 r]
  obtain ⟨its, rv, pl, hz⟩ := I.list hl
  have free := I.hok.fresh (Nat.le_refl s.heap.objs.size)
  refine call_set_few (P := X.prog) (w := X.w) (I.ok.hd hc) pl.isList (by simpa using refs_of_vals rv) (fun p hp => I.isT (hk p hp)) hU few (by omega) fun s' T => ?_
  obtain ⟨h', tk, rfl, old, L, es, ep, t, R, g⟩ := T
  refine ⟨.ref s.heap.objs.size, upd H s.heap.objs.size (SetTO X.prog X.w s.heap.objs.size L), I.laid (t' := tk) old (Nat.le_refl _) (setTO_new R.t0), rfl, q _ L free (fun p hp => List.mem_of_mem_take (g.sub p hp)) fun p hp => g.all p ?_⟩
  rw [List.take_length]
  exact hp
theorem cr_srtS (hc : X.calm = true) : CallR X (.builtin "sorted") (rSrtS X.K X.prog X.w) := by
  intro pins s σ H vs us Q I r h
  obtain ⟨a, L, d, rfl, ha, hk, hd, hl, q⟩ := h
  obtain ⟨es, ep, t, R⟩ := SetT0.full (I.hok a _ ha).1 fun p hp => I.isT (hk p hp)
  rw [Vals.ref1 r]
  refine sorted_set_lex R (I.ok.hd hc) hd hl fun s' p out c M k g o hp hg hout pm st => ?_
  have few := R.few
  have ln := pm.length_eq
  have hz : (M.map fun q => V.ref q.1).length ≤ sizeLine := by rw [List.length_map, sizeLine_eq]; omega
  have hv : Vals (M.map fun q => V.ref q.1) out.toList := by rw [hout]; exact vals_of_refs M
  have free : H p = none := I.hok.fresh hp
  have J : Inv X pins σ (upd H p (.lst (M.map fun q => V.ref q.1))) { s with heap := s'.heap, gens := s'.gens, drawn := s'.drawn, toks := s'.toks } := I.call (ch := []) (Un.laid k hp free) (I.hok.laid k hp ⟨hz, out.toList, c, hv, hg⟩) (by rw [g]; exact I.bare) nofun
  have e : { s with heap := s'.heap, gens := s'.gens, drawn := s'.drawn, toks := s'.toks } = s' := by
    obtain ⟨_, _, _, _, _⟩ := s'
    obtain ⟨_, _, _, _, _⟩ := s
    cases o
    rfl
  rw [e] at J
  exact ⟨.ref p, _, J, rfl, q M p pm st free⟩
theorem se_srt {a : Expr} {ma : ME} {p p2 pos pos2 : Pos} (m : Bool) (W : Wd X G F) (g : Gd X c) (hg : Gl X "sorted") (hm : X.mg "sorted" = none) (hg2 : Gl X "set") (hm2 : X.mg "set" = none) (hp : plainArg a = true) (ha : SE X a ma) :
    SE X (.Call (.Name "sorted" p) [.Call (.Name "set" p2) [a] [] pos2] [] pos) (mOp1 (opSrt m) ma) := fun ξ ρ H σ env st Q e0 hr w => by
  have hu := W.room.un
  refine (pe_callB (cr_srtS g.calm) hg hm (by decide +kernel) (pa_cons (pe_callTy (cr_setF g.calm (by omega)) hg2 hm2 (by decide +kernel) (pa_cons pe_re pa_nil (star_cons hp)) (by decide +kernel) (by decide +kernel) (star_cons hp) rfl) pa_nil rfl) (by decide +kernel) (by decide +kernel) rfl rfl).re ?_
  refine ha ξ ρ H σ env st _ e0 hr (R.wp_mono (R.wp_bd.mp w) fun x s w1 ρ1 H1 v x1 h1 r1 => ?_)
  unfold opSrt at w1
  cases e1 : seqD x s with
  | none => rw [e1] at w1; exact w1.elim
  | some ds =>
    rw [e1] at w1
    dsimp only at w1
    cases e2 : keysD ds with
    | none => rw [e2] at w1; exact w1.elim
    | some ks =>
      rw [e2] at w1
      dsimp only at w1
      by_cases ok : okK ks = true
      · rw [if_pos ok] at w1
        obtain ⟨⟨d, hd, hl⟩, few⟩ := okK_ok ok
        obtain ⟨l, ys, rfl, sq, z, rp⟩ := seqD_ok h1 r1 e1
        obtain ⟨kas, rfl, ek, hk⟩ := keysD_rps e2 rp
        have inK : ∀ q ∈ kas, q.2 ∈ ks := fun q hq => by rw [← ek]; exact List.mem_map.mpr ⟨q, hq, rfl⟩
        refine ⟨l, kas, srtL ks, rfl, sq, fun q hq => (hk q hq).1.sq, fun q hq => mem_srtL.mpr (inK q hq), few, fun b L hb sub all => ?_⟩
        refine ⟨b, L, d, rfl, upd_same, fun q hq => ?_, hd, fun q hq => hl _ (inK q (sub q hq)), fun M b2 pm stM hb2 => ?_⟩
        · exact (((hk q (sub q hq)).1.xt (.same (same_upd hb))).sq : SqT X.K (upd H1 b _) q.1 (q.2.map V.int))
        · have em : M.map (·.2) = srtL ks := StrL.uniq stM (str_srtL ks) fun y => by
            rw [mem_srtL]
            constructor
            · intro hy
              obtain ⟨q, hq, rfl⟩ := List.mem_map.mp hy
              exact inK q (sub q (pm.mem_iff.mp hq))
            · intro hy
              rw [← ek] at hy
              obtain ⟨q, hq, rfl⟩ := List.mem_map.mp hy
              exact (pm.map (·.2)).mem_iff.mpr (all q hq)
          have sm := Xt.same (ρ := ρ1) (same_upd (o := SetTO X.prog X.w b L) hb)
          rw [← em] at w1
          refine newL_ok (h1.same (same_upd hb)) hb2 ?_ (rps_keys fun q hq => ⟨(hk q (sub q (pm.mem_iff.mp hq))).1.xt sm, (hk q (sub q (pm.mem_iff.mp hq))).2⟩) (R.wp_mono w1 fun d s' k ρ' H' v' x' => k ρ' H' v' ((x1.trans sm).trans x'))
          have lm := congrArg List.length em
          rw [List.length_map] at lm
          rw [List.length_map, sizeLine_eq]
          omega
      · rw [if_neg ok] at w1
        exact w1.elim
end
end Rf
set_option maxHeartbeats 4000000
namespace Rf
open PySem PySem.Spec L2
open PyProof.Rows hiding St
/-! ## from the text to its meaning -/
structure Cfg where
  G : Gi
  mu : List (Nat × Nat)
def Cfg.m (P : Cfg) (p : Pos) : Bool := P.mu.any fun q => q.1 == p.line && q.2 == p.col
def ixOf : List Str → Str → Option Nat
  | [], _ => none
  | y :: r, x => if y = x then some 0 else match ixOf r x with
    | some i => some (i + 1)
    | none => none
theorem ixOf_ok : ∀ {N : List Str} {x : Str} {i : Nat}, ixOf N x = some i → N[i]? = some x
  | [], _, _, h => by cases h
  | y :: r, x, i, h => by
    unfold ixOf at h
    by_cases e : y = x
    · rw [if_pos e] at h
      cases h
      rw [e]
      rfl
    · rw [if_neg e] at h
      cases q : ixOf r x with
      | none => rw [q] at h; cases h
      | some j =>
        rw [q] at h
        cases h
        exact ixOf_ok (N := r) q
def visB (sc : Scope) (x : Str) : Bool := match sc.names.lookup x with
  | some .local => true
  | some .cell => true
  | some .free => true
  | _ => false
theorem visB_ok {sc : Scope} {x : Str} (h : visB sc x = true) : Vis sc x := by
  unfold visB at h
  split at h
  · exact .inl (by assumption)
  · exact .inr (.inl (by assumption))
  · exact .inr (.inr (by assumption))
  · cases h
def locB (sc : Scope) (x : Str) : Bool := match sc.names.lookup x with
  | some .local => true
  | some .cell => true
  | _ => false
theorem locB_ok {sc : Scope} {x : Str} (h : locB sc x = true) : Loc sc x := by
  unfold locB at h
  split at h
  · exact .inl (by assumption)
  · exact .inr (by assumption)
  · cases h
def glB (sc : Scope) (x : Str) : Bool := match sc.names.lookup x with
  | some .globalImplicit => true
  | _ => false
theorem glB_ok {X : Cx} {c : Ci} (g : Gd X c) {x : Str} (h : glB c.sc x = true) : Gl X x := by
  show X.env.scope.names.lookup x = _
  rw [g.hsc]
  unfold glB at h
  split at h
  · assumption
  · cases h
/-- a plain name: none of those that the machine treats apart -/
def okNm (x : Str) : Bool := !(x == ("__debug__" : Str)) && !(x == ("__classdict__" : Str)) && !(x == ("__name__" : Str))
theorem okNm_ok {x : Str} (h : okNm x = true) : (x == ("__debug__" : Str)) = false ∧ (x == ("__classdict__" : Str)) = false ∧ x ≠ "__name__" := by
  unfold okNm at h
  simp only [Bool.and_eq_true, Bool.not_eq_true'] at h
  exact ⟨h.1.1, h.1.2, fun e => by rw [e] at h; exact absurd h.2 (by decide)⟩
/-! ### built-in functions -/
inductive BltR (X : Cx) (x : Str) (f : List D → Sto → R D) : Prop
  | fn {id : String} {r : List V → Hp → VK → Prop} (hc : CallR X (.builtin id) r) (hm : X.mg x = none) (hv : bootBuiltins x = some (.builtin id)) (hd : DoN X f r) : BltR X x f
  | ty {T : String} {r : List V → Hp → VK → Prop} (hc : CallR X (.type T) r) (hm : X.mg x = none) (hv : bootBuiltins x = some (.type T)) (hd : DoN X f r) : BltR X x f
  | gl {id : String} {r : List V → Hp → VK → Prop} (hc : CallR X (.builtin id) r) (hm : X.mg x = some (.builtin id)) (hd : DoN X f r) : BltR X x f
inductive Bn where
  | len | abs | max | min | int | dm | all | any | sum | tuple | list | str | repr | gcd
  deriving DecidableEq
def bnNm : Bn → Str
  | .len => "len"
  | .abs => "abs"
  | .max => "max"
  | .min => "min"
  | .int => "int"
  | .dm => "divmod"
  | .all => "all"
  | .any => "any"
  | .sum => "sum"
  | .tuple => "tuple"
  | .list => "list"
  | .str => "str"
  | .repr => "repr"
  | .gcd => "gcd"
def bnAll : List Bn := [.len, .abs, .max, .min, .int, .dm, .all, .any, .sum, .tuple, .list, .str, .repr, .gcd]
def bnOf (x : Str) : Option Bn := bnAll.find? fun b => decide (bnNm b = x)
def bnM (m : Bool) : Bn → List D → Sto → R D
  | .len => un1 opLen
  | .abs => opAbs
  | .max => opMax
  | .min => opMin
  | .int => opInt
  | .dm => opDm
  | .all => opBls fun bs => .bl (bs.all id)
  | .any => opBls fun bs => .bl (bs.any id)
  | .sum => opInts fun ns => .int ns.sum
  | .tuple => un1 opTupOf
  | .list => un1 (opLstOf m)
  | .str => opStr
  | .repr => opRepr
  | .gcd => opGcd
theorem blt_none {X : Cx} {G : Gi} {F : Fn} (W : Wd X G F) {y : Str} (h : (blts.any fun z => decide (z.1 = y)) = true) : X.mg y = none := by
  obtain ⟨z, hz, e⟩ := List.any_eq_true.mp h
  rw [← of_decide_eq_true e]
  exact W.bl z hz
theorem bn_ok {X : Cx} {c : Ci} {G : Gi} {F : Fn} (W : Wd X G F) (g : Gd X c) (m : Bool) {x : Str} {b : Bn} (h : bnOf x = some b) (hgc : b = .gcd → G.gcd = true) : BltR X x (bnM m b) := by
  have hu := W.room.un
  have bl : ∀ (y : Str), (blts.any fun z => decide (z.1 = y)) = true → X.mg y = none := fun y hy => blt_none W hy
  have e := List.find?_some h
  rw [← of_decide_eq_true e]
  cases b with
  | len => exact .fn call_len (bl _ (by decide +kernel)) (by decide +kernel) (do_un1 do_len)
  | abs => exact .fn call_abs (bl _ (by decide +kernel)) (by decide +kernel) do_abs
  | max => exact .fn (call_max2 g.calm) (bl _ (by decide +kernel)) (by decide +kernel) do_max
  | min => exact .fn (call_min2 g.calm) (bl _ (by decide +kernel)) (by decide +kernel) do_min
  | int => exact .ty call_int1 (bl _ (by decide +kernel)) (by decide +kernel) do_int
  | dm => exact .fn call_dmA (bl _ (by decide +kernel)) (by decide +kernel) do_dm
  | all => exact .fn (cr_all g.calm) (bl _ (by decide +kernel)) (by decide +kernel) (do_bls fun _ _ _ _ => .bl _)
  | any => exact .fn (cr_any g.calm) (bl _ (by decide +kernel)) (by decide +kernel) (do_bls fun _ _ _ _ => .bl _)
  | sum => exact .fn (cr_sum g.calm) (bl _ (by decide +kernel)) (by decide +kernel) (do_ints fun _ _ _ _ => .int _)
  | tuple => exact .ty call_tuple_of (bl _ (by decide +kernel)) (by decide +kernel) (do_un1 do_tupOf)
  | list => exact .ty call_list_of (bl _ (by decide +kernel)) (by decide +kernel) (do_un1 (do_lstOf m))
  | str => exact .ty call_str_int (bl _ (by decide +kernel)) (by decide +kernel) do_str
  | repr => exact .fn (call_repr W.gq (by omega)) (bl _ (by decide +kernel)) (by decide +kernel) do_repr
  | gcd => exact .gl cr_gcd (W.gcd (hgc rfl)) do_gcd
theorem se_blt {X : Cx} {x : Str} {f : List D → Sto → R D} {e : Expr} {es : List Expr} {ma : MA} {p pos : Pos} (B : BltR X x f) (hg : Gl X x) (hx : okNm x = true) (hp : (e :: es).all plainArg = true) (ha : SA X (e :: es) ma) : SE X (.Call (.Name x p) (e :: es) [] pos) (mOpN f ma) := by
  rw [List.all_cons, Bool.and_eq_true] at hp
  obtain ⟨h1, h2, h3⟩ := okNm_ok hx
  cases B with
  | fn hc hm hv hd => exact se_opN (pe_callB hc hg hm hv pa_ra h3 h1 (star_cons hp.1) (star_any hp.2)) ha hd
  | ty hc hm hv hd => exact se_opN (pe_callTy hc hg hm hv pa_ra h3 h1 (star_cons hp.1) (star_any hp.2)) ha hd
  | gl hc hm hd => exact se_opN (pe_callBfun hc hg hm pa_ra h1 (star_cons hp.1) (star_any hp.2)) ha hd
def tyAll : List Ty := [.bool, .int, .str, .tuple, .list, .dict]
def tyOfNm (x : Str) : Option Ty := tyAll.find? fun t => decide (PySem.Str.ofString t.nm = x)
theorem tyOfNm_ok {x : Str} {t : Ty} (h : tyOfNm x = some t) : x = PySem.Str.ofString t.nm ∧ t ≠ .none ∧ (blts.any fun z => decide (z.1 = x)) = true := by
  have h2 : tyAll.find? (fun t => decide (PySem.Str.ofString t.nm = x)) = some t := h
  have e1 := List.find?_some h2
  have e : PySem.Str.ofString t.nm = x := of_decide_eq_true e1
  have hm : t ≠ .none := fun q => by
    have h1 := List.mem_of_find?_eq_some h2
    rw [q] at h1
    revert h1
    decide
  refine ⟨e.symm, hm, ?_⟩
  rw [← e]
  cases t with
  | none => exact absurd rfl hm
  | bool => decide +kernel
  | int => decide +kernel
  | str => decide +kernel
  | tuple => decide +kernel
  | list => decide +kernel
  | dict => decide +kernel
/-! ### the pieces -/
def cCst : Const → Option ME
  | .none => some (mCst .non)
  | .bool b => some (mCst (.bl b))
  | .int i => some (mCst (.int i))
  | .str x => some (mCst (.str x))
  | _ => none
def cName (P : Cfg) (c : Ci) (x : Str) : Option ME := if okNm x then
    if visB c.sc x then match ixOf c.N x with
      | some i => some (mVar i)
      | none => none
    else if glB c.sc x then match P.G.cs.lookup x with
      | some d => some (mCst d)
      | none => none
    else none
  else none
def cUn (op : UnaryOp) (ma : Option ME) : Option ME := match op, ma with
  | .USub, some m => some (mOp1 opNeg m)
  | .Not, some m => some (mNotV m)
  | _, _ => none
def binM (m : Bool) : Operator → Option Op2
  | .Add => some (opAdd m)
  | .Sub => some opSub
  | .Mult => some (opMul m)
  | .FloorDiv => some opDiv
  | .Mod => some opMod
  | .Pow => some opPow
  | .LShift => some opShl
  | _ => none
def cBin (m : Bool) (op : Operator) (ma mb : Option ME) : Option ME := match binM m op, ma, mb with
  | some f, some a, some b => some (mOp2 f a b)
  | _, _, _ => none
def isNoneC : Expr → Bool
  | .Constant .none _ _ => true
  | _ => false
/-- a comparison: of two parts, of three -/
def cCmp (ops : List CmpOp) (bs : List Expr) (ma : Option ME) (mbs : List (Option ME)) : Option ME := match ops, bs, ma, mbs with
  | [op], [b], some a, [mb] => if isNoneC b && decide (op = .Is) then some (mOp1 (opIsN false) a)
    else if isNoneC b && decide (op = .IsNot) then some (mOp1 (opIsN true) a)
    else match cmpM op, mb with
      | some f, some b' => if noSet b then some (mOp2 f a b') else none
      | _, _ => none
  | [op, op'], [_, _], some a, [some b, some d] => match cmpI op, cmpI op' with
    | some g, some g' => some (mChn g g' a b d)
    | _, _ => none
  | _, _, _, _ => none
/-- a table, asked whether a text is a key of it, and what stands there -/
def cTin (P : Cfg) (c : Ci) (ops : List CmpOp) (bs : List Expr) (ma : Option ME) : Option ME := match ops, bs, ma with
  | [op], [.Name x _], some a => if okNm x && glB c.sc x then match P.G.ts.lookup x with
      | some kvs => if op = .In then some (mOp1 (opTin false kvs) a) else if op = .NotIn then some (mOp1 (opTin true kvs) a) else none
      | none => none
    else none
  | _, _, _ => none
def cTget (P : Cfg) (c : Ci) (a : Expr) (mi : Option ME) : Option ME := match a, mi with
  | .Name x _, some m => if okNm x && glB c.sc x then match P.G.ts.lookup x with
      | some kvs => some (mOp1 (opTget kvs) m)
      | none => none
    else none
  | _, _ => none
def oOr {α : Type} (a b : Option α) : Option α := match a with
  | some x => some x
  | none => b
def oMap {α β : Type} (f : α → β) : Option α → Option β
  | some a => some (f a)
  | none => none
/-- list(range(..)): what the range is made of -/
def rgArg (c : Ci) (x : Str) (es : List Expr) : Option (Expr × Option Expr) := match es with
  | [.Call (.Name y _) [a] [] _] => if x = "list" ∧ y = "range" ∧ glB c.sc y = true ∧ plainArg a = true then some (a, none) else none
  | [.Call (.Name y _) [a, b] [] _] => if x = "list" ∧ y = "range" ∧ glB c.sc y = true ∧ plainArg a = true ∧ plainArg b = true then some (a, some b) else none
  | _ => none
/-- sorted(set(..)): of what -/
def srArg (c : Ci) (x : Str) (es : List Expr) : Option Expr := match es with
  | [.Call (.Name y _) [a] [] _] => if x = "sorted" ∧ y = "set" ∧ glB c.sc y = true ∧ plainArg a = true then some a else none
  | _ => none
def isOne : Option Expr → Bool
  | some (.UnaryOp .USub (.Constant (.int i) _ _) _) => i == 1
  | _ => false
def findFi (fs : List Fi) (x : Str) (np : Nat) (kw : List Str) : Option Fi := fs.find? fun f => decide (f.nm = x) && decide (f.np = np) && decide (f.kw = kw)
theorem findFi_ok {fs : List Fi} {x : Str} {np : Nat} {kw : List Str} {f : Fi} (h : findFi fs x np kw = some f) : f ∈ fs ∧ f.nm = x ∧ f.np = np ∧ f.kw = kw := by
  have h1 := List.mem_of_find?_eq_some h
  have h2 := List.find?_some h
  simp only [Bool.and_eq_true, decide_eq_true_eq] at h2
  exact ⟨h1, h2.1.1, h2.1.2, h2.2⟩
def ownOf (N : List Str) (scope : Scope) : List (Str × Nat) := scope.names.filterMap fun y => match y.2 with
  | .local => oMap (fun i => (y.1, i)) (ixOf N y.1)
  | .cell => oMap (fun i => (y.1, i)) (ixOf N y.1)
  | _ => none
def isTupE : Expr → Bool
  | .Tuple .. => true
  | _ => false
def okIx (sl own : List Nat) : Bool := sl.all fun i => own.contains i
mutual
def cE (P : Cfg) (F : Fn) (W : Nat) : Nat → Ci → Expr → Option ME
  | 0, _, _ => none
  | n + 1, c, e => match e with
    | .Constant k _ _ => cCst k
    | .Name x _ => cName P c x
    | .UnaryOp op a _ => cUn op (cE P F W n c a)
    | .BinOp a op b pos => cBin (P.m pos) op (cE P F W n c a) (cE P F W n c b)
    | .BoolOp op es _ => cBo P F W n c op es
    | .Compare a ops bs _ => oOr (cTin P c ops bs (cE P F W n c a)) (cCmp ops bs (cE P F W n c a) (bs.map (cE P F W n c)))
    | .IfExp t a b _ => match cT P F W n c t, cE P F W n c a, cE P F W n c b with
      | some t, some a, some b => some (mIf t a b)
      | _, _, _ => none
    | .Tuple es _ _ => oMap (mOpN opTup) (cA P F W n c es)
    | .List es pos => oMap (mOpN (opLst (P.m pos))) (cA P F W n c es)
    | .Dict ks vs _ => if ks.isEmpty && vs.isEmpty then some mDct else none
    | .Subscript a i pos => match i with
      | .Slice lo hi st _ => match st with
        | none => match cE P F W n c a, cO P F W n c lo, cO P F W n c hi with
          | some a, some l, some h => some (mSl (P.m pos) a l h)
          | _, _, _ => none
        | some s => if isOne (some s) && lo.isNone && hi.isNone then oMap (mOp1 (opRev (P.m pos))) (cE P F W n c a) else none
      | i => oOr (cTget P c a (cE P F W n c i)) (match cE P F W n c a, cE P F W n c i with
        | some a, some i => some (mOp2 opIx a i)
        | _, _ => none)
    | .Call f es kws pos => match f with
      | .Name x _ => if glB c.sc x && okNm x && es.all plainArg then
          match findFi P.G.fs x es.length (kwNames kws) with
          | some fi => if kws.all fun k => k.arg.isSome then match cA P F W n c es, cK P F W n c kws with
              | some ma, some mk => some (if kws.isEmpty then mCall F fi.id fi.arr ma else mCallK F fi.id fi.arr ma mk)
              | _, _ => none
            else none
          | none => if kws.isEmpty then
              if x = "isinstance" then match es with
                | [a, .Name t _] => if glB c.sc t then match tyOfNm t, cE P F W n c a with
                    | some ty, some ma => some (mOp1 (opIsi ty) ma)
                    | _, _ => none
                  else none
                | _ => none
              else match rgArg c x es with
                | some (a, none) => match cE P F W n c a with
                  | some ma => some (mLrg (P.m pos) (mCons ma mNil))
                  | none => none
                | some (a, some b) => match cE P F W n c a, cE P F W n c b with
                  | some ma, some mb => some (mLrg (P.m pos) (mCons ma (mCons mb mNil)))
                  | _, _ => none
                | none => match srArg c x es with
                  | some a => oMap (mOp1 (opSrt (P.m pos))) (cE P F W n c a)
                  | none => match bnOf x, es, cA P F W n c es with
                    | some b, _ :: _, some ma => if b ≠ .gcd ∨ P.G.gcd = true then some (mOpN (bnM (P.m pos) b) ma) else none
                    | _, _, _ => none
            else none
        else none
      | .Attribute o m ap => if kws.isEmpty && noSuper o && (ap.endLine == pos.line) then
          match es with
          | [a] => if m = "append" && plainArg a then match cE P F W n c o, cE P F W n c a with
              | some mo, some ma => some (mMt opApp mo ma)
              | _, _ => none
            else if m = "pop" && plainArg a then match cE P F W n c o, cE P F W n c a with
              | some mo, some ma => some (mMt opPopAt mo ma)
              | _, _ => none
            else none
          | [] => if m = "pop" then oMap (mMt0 opPop) (cE P F W n c o) else none
          | _ => none
        else none
      | _ => none
    | .ListComp elt gens scope pos => cLc P F W n c elt gens scope (P.m pos)
    | _ => none
def cLc (P : Cfg) (F : Fn) (W : Nat) : Nat → Ci → Expr → List Comprehension → Scope → Bool → Option ME
  | 0, _, _, _, _, _ => none
  | n + 1, c, elt, gens, scope, m => match gens with
    | [⟨tg, it, ifs, 0⟩] => if noSet it && blkC c.N c.sc scope (ownOf c.N scope) && ownB scope (ownOf c.N scope) then
        match cI P F W n c tg it, cG P F W n (c.blk scope (ownOf c.N scope)) tg, cIf P F W n (c.blk scope (ownOf c.N scope)) ifs, cE P F W n (c.blk scope (ownOf c.N scope)) elt with
        | some mi, some (sl, g), some mt, some me => if okIx sl ((ownOf c.N scope).map (·.2)) then some (mLc m ((ownOf c.N scope).map (·.2)) g mt me mi) else none
        | _, _, _, _ => none
      else none
    | _ => none
def cIf (P : Cfg) (F : Fn) (W : Nat) : Nat → Ci → List Expr → Option MT
  | 0, _, _ => none
  | n + 1, c, es => match es with
    | [] => some mYes
    | [e] => cT P F W n c e
    | _ => none
def cO (P : Cfg) (F : Fn) (W : Nat) : Nat → Ci → Option Expr → Option (Option ME)
  | 0, _, _ => none
  | n + 1, c, e => match e with
    | none => some none
    | some e => oMap some (cE P F W n c e)
def cBo (P : Cfg) (F : Fn) (W : Nat) : Nat → Ci → BoolOp → List Expr → Option ME
  | 0, _, _, _ => none
  | n + 1, c, op, es => match es with
    | [] => none
    | a :: r => match r with
      | [] => cE P F W n c a
      | _ :: _ => match cE P F W n c a, cBo P F W n c op r with
        | some ma, some mb => some (match op with
          | .And => mAndV ma mb
          | .Or => mOrV ma mb)
        | _, _ => none
def cT (P : Cfg) (F : Fn) (W : Nat) : Nat → Ci → Expr → Option MT
  | 0, _, _ => none
  | n + 1, c, e => match e with
    | .UnaryOp op a pos => match op with
      | .Not => oMap mNotT (cT P F W n c a)
      | op => oMap mTest (cE P F W n c (.UnaryOp op a pos))
    | .BoolOp op es _ => cTb P F W n c op es
    | .Compare a ops bs _ => oMap mTest (oOr (cTin P c ops bs (cE P F W n c a)) (cCmp ops bs (cE P F W n c a) (bs.map (cE P F W n c))))
    | .IfExp t a b _ => match cT P F W n c t, cT P F W n c a, cT P F W n c b with
      | some t, some a, some b => some (mIfT t a b)
      | _, _, _ => none
    | e => oMap mTest (cE P F W n c e)
def cTb (P : Cfg) (F : Fn) (W : Nat) : Nat → Ci → BoolOp → List Expr → Option MT
  | 0, _, _, _ => none
  | n + 1, c, op, es => match es with
    | [] => none
    | a :: r => match r with
      | [] => cT P F W n c a
      | _ :: _ => match cT P F W n c a, cTb P F W n c op r with
        | some ma, some mb => some (match op with
          | .And => mAndT ma mb
          | .Or => mOrT ma mb)
        | _, _ => none
def cA (P : Cfg) (F : Fn) (W : Nat) : Nat → Ci → List Expr → Option MA
  | 0, _, _ => none
  | n + 1, c, es => match es with
    | [] => some mNil
    | e :: r => if plainArg e then match cE P F W n c e, cA P F W n c r with
        | some m, some mr => some (mCons m mr)
        | _, _ => none
      else none
def cK (P : Cfg) (F : Fn) (W : Nat) : Nat → Ci → List Keyword → Option MA
  | 0, _, _ => none
  | n + 1, c, ks => match ks with
    | [] => some mNil
    | k :: r => match cE P F W n c k.value, cK P F W n c r with
      | some m, some mr => some (mCons m mr)
      | _, _ => none
def cG (P : Cfg) (F : Fn) (W : Nat) : Nat → Ci → Expr → Option (List Nat × MG)
  | 0, _, _ => none
  | n + 1, c, e => match e with
    | .Name x _ => match ixOf c.N x with
      | some i => if locB c.sc x && c.sb.contains x then some ([i], gNm i) else none
      | none => none
    | .Tuple es _ _ => if es.all plainArg then match cGs P F W n c es with
        | some (sl, ms) => some (sl, gTp es.length ms)
        | none => none
      else none
    | .Subscript o i _ => if notSlice i then match cE P F W n c o, cE P F W n c i with
        | some mo, some mi => some ([], gSub mo mi)
        | _, _ => none
      else none
    | _ => none
def cGs (P : Cfg) (F : Fn) (W : Nat) : Nat → Ci → List Expr → Option (List Nat × MGs)
  | 0, _, _ => none
  | n + 1, c, es => match es with
    | [] => some ([], gNil)
    | e :: r => if plainArg e then match cG P F W n c e, cGs P F W n c r with
        | some (s1, m), some (s2, ms) => some (s1 ++ s2, gCons m ms)
        | _, _ => none
      else none
def cI (P : Cfg) (F : Fn) (W : Nat) : Nat → Ci → Expr → Expr → Option MI
  | 0, _, _, _ => none
  | n + 1, c, tg, it => match it with
    | .Call f es kws pos => match f with
      | .Name x p => if x = "range" && glB c.sc x && kws.isEmpty && es.all plainArg && decide (1 ≤ es.length) && decide (es.length ≤ 2) then oMap mRg (cA P F W n c es)
        else if x = "zip" && glB c.sc x && kws.isEmpty && es.all plainArg && decide (1 ≤ es.length) && isTupE tg then oMap mZp (cA P F W n c es)
        else if x = "enumerate" && glB c.sc x && kws.isEmpty && es.all plainArg && decide (1 ≤ es.length) && isTupE tg then oMap mEn (cA P F W n c es)
        else oMap mIt (cE P F W n c (.Call (.Name x p) es kws pos))
      | f => oMap mIt (cE P F W n c (.Call f es kws pos))
    | it => oMap mIt (cE P F W n c it)
end
end Rf
set_option maxHeartbeats 4000000
namespace Rf
open PySem PySem.Spec L2
open PyProof.Rows hiding St
/-! ## the meaning is the text's -/
theorem oMap_some {α β : Type} {f : α → β} {o : Option α} {b : β} (h : oMap f o = some b) : ∃ a, o = some a ∧ b = f a := by
  cases o with
  | none => cases h
  | some a => cases h; exact ⟨a, rfl, rfl⟩
theorem mem_of_lk {β : Type} : ∀ {l : List (Str × β)} {x : Str} {d : β}, l.lookup x = some d → (x, d) ∈ l
  | [], _, _, h => by cases h
  | (y, e) :: r, x, d, h => by
    rw [List.lookup_cons] at h
    by_cases q : x = y
    · subst q
      rw [beq_self_eq_true] at h
      cases h
      exact .head _
    · have q' : (x == y) = false := by
        cases z : (x == y) with
        | false => rfl
        | true => exact absurd (eq_of_beq z) q
      rw [q'] at h
      exact .tail _ (mem_of_lk h)
section
variable {X : Cx} {c : Ci} {G : Gi} {F : Fn} {P : Cfg}
theorem se_ccst {k : Const} {j : Nat} {pos : Pos} {m : ME} (h : cCst k = some m) : SE X (.Constant k j pos) m := by
  cases k with
  | none => cases h; exact se_cst pe_non fun _ _ _ => .non
  | bool b => cases h; exact se_cst pe_bl fun _ _ _ => .bl b
  | int i => cases h; exact se_cst pe_int fun _ _ _ => .int i
  | str x => cases h; exact se_cst pe_str fun _ _ _ => .str x
  | _ => cases h
theorem se_gl {x : Str} {pos : Pos} {d : D} (W : Wd X G F) (g : Gd X c) (hx : okNm x = true) (hg : glB c.sc x = true) (h : G.cs.lookup x = some d) : SE X (.Name x pos) (mCst d) := by
  obtain ⟨h1, h2, h3⟩ := okNm_ok hx
  obtain ⟨u, v, e, r, q⟩ := W.cs (x, d) (mem_of_lk h)
  exact se_cst (pe_glob (glB_ok g hg) e r h1) q
theorem se_cname {x : Str} {pos : Pos} {m : ME} (W : Wd X P.G F) (g : Gd X c) (h : cName P c x = some m) : SE X (.Name x pos) m := by
  unfold cName at h
  split at h
  · rename_i hx
    obtain ⟨h1, h2, h3⟩ := okNm_ok hx
    split at h
    · rename_i hv
      cases e : ixOf c.N x with
      | none => rw [e] at h; cases h
      | some i => rw [e] at h; cases h; exact se_var g (ixOf_ok e) (visB_ok hv) h1 h2
    · split at h
      · rename_i hv
        cases e : P.G.cs.lookup x with
        | none => rw [e] at h; cases h
        | some i => rw [e] at h; cases h; exact se_gl W g hx hv e
      · cases h
  · cases h
/-- one operator of two -/
theorem se_bin {m : Bool} {op : Operator} {f : Op2} {a b : Expr} {ma mb : ME} {pos : Pos} (h : binM m op = some f) (ha : SE X a ma) (hb : SE X b mb) : SE X (.BinOp a op b pos) (mOp2 f ma mb) := by
  cases op <;> first | cases h | skip
  · exact se_op2 (pe_op op_addA pe_re pe_re) ha hb (do_add m)
  · exact se_op2 (pe_op (op_of0 op_sub) pe_re pe_re) ha hb (do_I2 (fun _ _ _ => trivial) fun _ _ _ _ _ => .int _)
  · exact se_op2 (pe_op op_mulA pe_re pe_re) ha hb (do_mul m)
  · exact se_op2 (pe_op op_modN pe_re pe_re) ha hb (do_I2 (fun _ _ h => of_decide_eq_true h) fun _ _ _ _ _ => .int _)
  · exact se_op2 (pe_op op_pow pe_re pe_re) ha hb (do_I2 (fun _ _ h => powB_ok h) fun _ _ _ _ _ => .int _)
  · exact se_op2 (pe_op op_shl pe_re pe_re) ha hb (do_I2 (fun _ _ h => powB_ok h) fun _ _ _ _ _ => .int _)
  · exact se_op2 (pe_op op_divA pe_re pe_re) ha hb (do_I2 (fun _ _ h => h) fun _ _ _ _ _ => .int _)
theorem se_cbin {m : Bool} {op : Operator} {a b : Expr} {oa ob : Option ME} {pos : Pos} {r : ME} (h : cBin m op oa ob = some r) (ha : ∀ x, oa = some x → SE X a x) (hb : ∀ x, ob = some x → SE X b x) : SE X (.BinOp a op b pos) r := by
  unfold cBin at h
  split at h
  · cases h
    exact se_bin (by assumption) (ha _ rfl) (hb _ rfl)
  · cases h
theorem se_cun {op : UnaryOp} {a : Expr} {oa : Option ME} {pos : Pos} {r : ME} (h : cUn op oa = some r) (ha : ∀ x, oa = some x → SE X a x) : SE X (.UnaryOp op a pos) r := by
  unfold cUn at h
  split at h
  · cases h
    exact se_op1 (pe_un un_neg pe_re) (ha _ rfl) do_neg
  · cases h
    exact se_not (ha _ rfl)
  · cases h
theorem isNoneC_ok {e : Expr} (h : isNoneC e = true) : ∃ j pos, e = .Constant .none j pos := by
  unfold isNoneC at h
  split at h
  · exact ⟨_, _, rfl⟩
  · cases h
theorem marks_no {op : CmpOp} {b : Expr} (h : noSet b = true) : behindInMarks op b = false := by
  cases b <;> first | rfl | cases h
inductive Both (X : Cx) (e : Expr) (m : ME) : Prop
  | mk (h : SE X e m) (t : ST X e (mTest m))
theorem cmp_both {ops : List CmpOp} {a : Expr} {bs : List Expr} {oa : Option ME} {f : Expr → Option ME} {pos : Pos} {r : ME} (W : Wd X G F) (h : cCmp ops bs oa (bs.map f) = some r) (ha : ∀ x, oa = some x → SE X a x) (hb : ∀ b x, f b = some x → SE X b x) : Both X (.Compare a ops bs pos) r := by
  match ops, bs with
  | [op], [b] =>
    cases oa with
    | none => cases h
    | some ma =>
      have h' : (if (isNoneC b && decide (op = .Is)) = true then some (mOp1 (opIsN false) ma)
        else if (isNoneC b && decide (op = .IsNot)) = true then some (mOp1 (opIsN true) ma)
        else match cmpM op, f b with
          | some g, some b' => if noSet b then some (mOp2 g ma b') else none
          | _, _ => none) = some r := h
      split at h'
      · rename_i hc
        rw [Bool.and_eq_true, decide_eq_true_eq] at hc
        obtain ⟨hc, rfl⟩ := hc
        cases h'
        obtain ⟨j, p, rfl⟩ := isNoneC_ok hc
        exact ⟨se_isN (ha _ rfl), st_isN (ha _ rfl)⟩
      split at h'
      · rename_i hc
        rw [Bool.and_eq_true, decide_eq_true_eq] at hc
        obtain ⟨hc, rfl⟩ := hc
        cases h'
        obtain ⟨j, p, rfl⟩ := isNoneC_ok hc
        exact ⟨se_notN (ha _ rfl), st_notN (ha _ rfl)⟩
      split at h'
      · rename_i e1 e2
        split at h'
        · rename_i hn
          cases h'
          exact ⟨se_cmp (cmpM_ok W e1) (marks_no hn) (ha _ rfl) (hb _ _ e2), st_cmp (cmpM_ok W e1) (marks_no hn) (ha _ rfl) (hb _ _ e2)⟩
        · cases h'
      · cases h'
  | [op, op'], [b, d] =>
    cases oa with
    | none => cases h
    | some ma =>
      cases e1 : f b with
      | none =>
        have h' : cCmp [op, op'] [b, d] (some ma) [f b, f d] = some r := h
        rw [e1] at h'
        cases h'
      | some mb =>
        cases e2 : f d with
        | none =>
          have h' : cCmp [op, op'] [b, d] (some ma) [f b, f d] = some r := h
          rw [e1, e2] at h'
          cases h'
        | some md =>
          have h' : cCmp [op, op'] [b, d] (some ma) [f b, f d] = some r := h
          rw [e1, e2] at h'
          have h2 : (match cmpI op, cmpI op' with
            | some g, some g' => some (mChn g g' ma mb md)
            | _, _ => none) = some r := h'
          split at h2
          · rename_i g1 g2
            cases h2
            exact ⟨se_chn g1 g2 (ha _ rfl) (hb _ _ e1) (hb _ _ e2), st_chn g1 g2 (ha _ rfl) (hb _ _ e1) (hb _ _ e2)⟩
          · cases h2
  | [], _ => cases h
  | [_], [] => cases h
  | [_], _ :: _ :: _ => cases h
  | [_, _], [] => cases h
  | [_, _], [_] => cases h
  | [_, _], _ :: _ :: _ :: _ => cases h
  | _ :: _ :: _ :: _, _ => cases h
theorem oOr_some {α : Type} {a b : Option α} {x : α} (h : oOr a b = some x) : a = some x ∨ b = some x := by
  cases a with
  | none => exact .inr h
  | some y => exact .inl h
theorem tin_both {ops : List CmpOp} {a : Expr} {bs : List Expr} {oa : Option ME} {pos : Pos} {r : ME} (W : Wd X P.G F) (g : Gd X c) (h : cTin P c ops bs oa = some r) (ha : ∀ x, oa = some x → SE X a x) : Both X (.Compare a ops bs pos) r := by
  unfold cTin at h
  split at h
  · rename_i op x p ma
    split at h
    · rename_i hc
      rw [Bool.and_eq_true] at hc
      split at h
      · rename_i kvs e
        split at h
        · rename_i ho
          cases h
          subst ho
          exact ⟨se_tin W g hc.1 (glB_ok g hc.2) (mem_of_lk e) (ha _ rfl), st_tin W g hc.1 (glB_ok g hc.2) (mem_of_lk e) (ha _ rfl)⟩
        · split at h
          · rename_i ho
            cases h
            subst ho
            exact ⟨se_tnin W g hc.1 (glB_ok g hc.2) (mem_of_lk e) (ha _ rfl), st_tnin W g hc.1 (glB_ok g hc.2) (mem_of_lk e) (ha _ rfl)⟩
          · cases h
      · cases h
    · cases h
  · cases h
theorem tget_ok {a i : Expr} {oi : Option ME} {pos : Pos} {r : ME} (W : Wd X P.G F) (g : Gd X c) (hs : PlainIx i) (h : cTget P c a oi = some r) (hi : ∀ x, oi = some x → SE X i x) : SE X (.Subscript a i pos) r := by
  unfold cTget at h
  split at h
  · split at h
    · rename_i hc
      rw [Bool.and_eq_true] at hc
      split at h
      · rename_i kvs e
        cases h
        exact se_tget W g hc.1 (glB_ok g hc.2) (mem_of_lk e) hs (hi _ rfl)
      · cases h
    · cases h
  · cases h
theorem rgArg1 {x : Str} {es : List Expr} {a : Expr} (h : rgArg c x es = some (a, none)) : ∃ p pos, x = "list" ∧ es = [.Call (.Name "range" p) [a] [] pos] ∧ glB c.sc "range" = true ∧ plainArg a = true := by
  unfold rgArg at h
  split at h
  · split at h
    · rename_i hc
      cases h
      obtain ⟨h1, rfl, h3, h4⟩ := hc
      exact ⟨_, _, h1, rfl, h3, h4⟩
    · cases h
  · split at h <;> cases h
  · cases h
theorem rgArg2 {x : Str} {es : List Expr} {a b : Expr} (h : rgArg c x es = some (a, some b)) : ∃ p pos, x = "list" ∧ es = [.Call (.Name "range" p) [a, b] [] pos] ∧ glB c.sc "range" = true ∧ plainArg a = true ∧ plainArg b = true := by
  unfold rgArg at h
  split at h
  · split at h <;> cases h
  · split at h
    · rename_i hc
      cases h
      obtain ⟨h1, rfl, h3, h4, h5⟩ := hc
      exact ⟨_, _, h1, rfl, h3, h4, h5⟩
    · cases h
  · cases h
theorem srArg_ok {x : Str} {es : List Expr} {a : Expr} (h : srArg c x es = some a) : ∃ p pos, x = "sorted" ∧ es = [.Call (.Name "set" p) [a] [] pos] ∧ glB c.sc "set" = true ∧ plainArg a = true := by
  unfold srArg at h
  split at h
  · split at h
    · rename_i q
      cases h
      obtain ⟨rfl, rfl, q3, q4⟩ := q
      exact ⟨_, _, rfl, rfl, q3, q4⟩
    · cases h
  · cases h
theorem isOne_ok {e : Option Expr} (h : isOne e = true) : ∃ k p p2, e = some (.UnaryOp .USub (.Constant (.int 1) k p) p2) := by
  unfold isOne at h
  split at h
  · rename_i i k p p2
    have q : i = 1 := by simpa using h
    exact ⟨k, p, p2, by rw [q]⟩
  · cases h
theorem okIx_ok {sl own : List Nat} (h : okIx sl own = true) : ∀ i ∈ sl, i ∈ own := fun i hi => by
  have h2 := List.all_eq_true.mp h i hi
  simpa using h2
end
/-- what fuel n reads is true -/
structure Sd (P : Cfg) (F : Fn) (W n : Nat) : Prop where
  e : ∀ (X : Cx) (c : Ci) (x : Expr) (m : ME), Wd X P.G F → Gd X c → cE P F W n c x = some m → SE X x m
  lc : ∀ (X : Cx) (c : Ci) (elt : Expr) (gens : List Comprehension) (scope : Scope) (b : Bool) (m : ME), Wd X P.G F → Gd X c → cLc P F W n c elt gens scope b = some m →
    ∃ (tg it : Expr) (ifs : List Expr) (own : List (Str × Nat)) (sl : List Nat) (g : MG) (mt : MT) (me : ME) (mi : MI), gens = [⟨tg, it, ifs, 0⟩] ∧ m = mLc b (own.map (·.2)) g mt me mi ∧ noSet it = true ∧ blkC c.N c.sc scope own = true ∧ SI X tg it mi ∧ (∀ i ∈ sl, i ∈ own.map (·.2)) ∧
      (∀ (s : Shared) (H : Hp) (C : Addr) (cl : List (Str × Addr)) (fp : List Addr), SG (X.blk s H scope (compEnvC scope cl C X.env) fp) tg sl g) ∧
      (∀ (s : Shared) (H : Hp) (C : Addr) (cl : List (Str × Addr)) (fp : List Addr), STs (X.blk s H scope (compEnvC scope cl C X.env) fp) ifs mt) ∧
      (∀ (s : Shared) (H : Hp) (C : Addr) (cl : List (Str × Addr)) (fp : List Addr), SE (X.blk s H scope (compEnvC scope cl C X.env) fp) elt me)
  f : ∀ (X : Cx) (c : Ci) (es : List Expr) (m : MT), Wd X P.G F → Gd X c → cIf P F W n c es = some m → STs X es m
  o : ∀ (X : Cx) (c : Ci) (e : Option Expr) (m : Option ME), Wd X P.G F → Gd X c → cO P F W n c e = some m → SO X e m
  bo : ∀ (X : Cx) (c : Ci) (op : BoolOp) (es : List Expr) (m : ME) (pos : Pos), Wd X P.G F → Gd X c → cBo P F W n c op es = some m → SE X (.BoolOp op es pos) m
  t : ∀ (X : Cx) (c : Ci) (x : Expr) (m : MT), Wd X P.G F → Gd X c → cT P F W n c x = some m → ST X x m
  tb : ∀ (X : Cx) (c : Ci) (op : BoolOp) (es : List Expr) (m : MT) (pos : Pos), Wd X P.G F → Gd X c → cTb P F W n c op es = some m → SW X (.BoolOp op es pos) m
  a : ∀ (X : Cx) (c : Ci) (es : List Expr) (m : MA), Wd X P.G F → Gd X c → cA P F W n c es = some m → SA X es m ∧ es.all plainArg = true
  k : ∀ (X : Cx) (c : Ci) (ks : List Keyword) (m : MA), Wd X P.G F → Gd X c → cK P F W n c ks = some m → SK X ks m
  g : ∀ (X : Cx) (c : Ci) (x : Expr) (sl : List Nat) (m : MG), Wd X P.G F → Gd X c → cG P F W n c x = some (sl, m) → SG X x sl m
  gs : ∀ (X : Cx) (c : Ci) (es : List Expr) (sl : List Nat) (m : MGs), Wd X P.G F → Gd X c → cGs P F W n c es = some (sl, m) → SGs X es sl m ∧ es.all plainArg = true
  i : ∀ (X : Cx) (c : Ci) (tg it : Expr) (m : MI), Wd X P.G F → Gd X c → cI P F W n c tg it = some m → SI X tg it m
section
variable {P : Cfg} {F : Fn} {W n : Nat}
theorem sd_lc (S : Sd P F W n) (X : Cx) (c : Ci) (elt : Expr) (gens : List Comprehension) (scope : Scope) (b : Bool) (m : ME) (w : Wd X P.G F) (g : Gd X c) (h : cLc P F W (n + 1) c elt gens scope b = some m) :
    ∃ (tg it : Expr) (ifs : List Expr) (own : List (Str × Nat)) (sl : List Nat) (g : MG) (mt : MT) (me : ME) (mi : MI), gens = [⟨tg, it, ifs, 0⟩] ∧ m = mLc b (own.map (·.2)) g mt me mi ∧ noSet it = true ∧ blkC c.N c.sc scope own = true ∧ SI X tg it mi ∧ (∀ i ∈ sl, i ∈ own.map (·.2)) ∧
      (∀ (s : Shared) (H : Hp) (C : Addr) (cl : List (Str × Addr)) (fp : List Addr), SG (X.blk s H scope (compEnvC scope cl C X.env) fp) tg sl g) ∧
      (∀ (s : Shared) (H : Hp) (C : Addr) (cl : List (Str × Addr)) (fp : List Addr), STs (X.blk s H scope (compEnvC scope cl C X.env) fp) ifs mt) ∧
      (∀ (s : Shared) (H : Hp) (C : Addr) (cl : List (Str × Addr)) (fp : List Addr), SE (X.blk s H scope (compEnvC scope cl C X.env) fp) elt me) := by
  unfold cLc at h
  split at h
  · rename_i tg it ifs
    split at h
    · rename_i hc
      rw [Bool.and_eq_true, Bool.and_eq_true] at hc
      obtain ⟨⟨h1, h2⟩, h3⟩ := hc
      split at h
      · rename_i mi sl g' mt me e1 e2 e3 e4
        split at h
        · rename_i h5
          cases h
          exact ⟨tg, it, ifs, ownOf c.N scope, sl, g', mt, me, mi, rfl, rfl, h1, h2, S.i X c tg it mi w g e1, okIx_ok h5,
            fun s H C cl fp => S.g _ _ _ _ _ (w.blk scope s H C cl fp) (g.blk h3 s H C cl fp) e2,
            fun s H C cl fp => S.f _ _ _ _ (w.blk scope s H C cl fp) (g.blk h3 s H C cl fp) e3,
            fun s H C cl fp => S.e _ _ _ _ (w.blk scope s H C cl fp) (g.blk h3 s H C cl fp) e4⟩
        · cases h
      · cases h
    · cases h
  · cases h
theorem sd_f (S : Sd P F W n) (X : Cx) (c : Ci) (es : List Expr) (m : MT) (w : Wd X P.G F) (g : Gd X c) (h : cIf P F W (n + 1) c es = some m) : STs X es m := by
  unfold cIf at h
  split at h
  · cases h; exact sts_nil
  · exact sts_one (S.t _ _ _ _ w g h)
  · cases h
theorem sd_o (S : Sd P F W n) (X : Cx) (c : Ci) (e : Option Expr) (m : Option ME) (w : Wd X P.G F) (g : Gd X c) (h : cO P F W (n + 1) c e = some m) : SO X e m := by
  unfold cO at h
  split at h
  · cases h; trivial
  · obtain ⟨a, e1, rfl⟩ := oMap_some h
    exact S.e _ _ _ _ w g e1
theorem sd_bo (S : Sd P F W n) (X : Cx) (c : Ci) (op : BoolOp) (es : List Expr) (m : ME) (pos : Pos) (w : Wd X P.G F) (g : Gd X c) (h : cBo P F W (n + 1) c op es = some m) : SE X (.BoolOp op es pos) m := by
  unfold cBo at h
  split at h
  · cases h
  · split at h
    · exact se_one (S.e _ _ _ _ w g h)
    · split at h
      · rename_i e1 e2
        cases h
        cases op with
        | And => exact se_and (S.e _ _ _ _ w g e1) (S.bo _ _ _ _ _ _ w g e2)
        | Or => exact se_or (S.e _ _ _ _ w g e1) (S.bo _ _ _ _ _ _ w g e2)
      · cases h
theorem sd_t (S : Sd P F W n) (X : Cx) (c : Ci) (x : Expr) (m : MT) (w : Wd X P.G F) (g : Gd X c) (h : cT P F W (n + 1) c x = some m) : ST X x m := by
  unfold cT at h
  split at h
  · rename_i op a pos
    cases op with
    | Not =>
      obtain ⟨a, e1, rfl⟩ := oMap_some h
      exact st_not (S.t _ _ _ _ w g e1)
    | _ =>
      obtain ⟨a, e1, rfl⟩ := oMap_some h
      exact st_val (fun _ _ => rfl) (S.e _ _ _ _ w g e1)
  · exact (S.tb _ _ _ _ _ _ w g h).st
  · obtain ⟨a, e1, rfl⟩ := oMap_some h
    rcases oOr_some e1 with e1 | e1
    · exact (tin_both w g e1 fun x hx => S.e _ _ _ _ w g hx).2
    · exact (cmp_both w e1 (fun x hx => S.e _ _ _ _ w g hx) fun b x hx => S.e _ _ _ _ w g hx).2
  · split at h
    · rename_i e1 e2 e3
      cases h
      exact st_if (S.t _ _ _ _ w g e1) (S.t _ _ _ _ w g e2) (S.t _ _ _ _ w g e3)
    · cases h
  · rename_i h1 h2 h3 h4
    obtain ⟨a, e1, rfl⟩ := oMap_some h
    refine st_val ?_ (S.e _ _ _ _ w g e1)
    cases x <;> first | exact (h1 _ _ _ rfl).elim | exact (h2 _ _ _ rfl).elim | exact (h3 _ _ _ _ rfl).elim | exact (h4 _ _ _ _ rfl).elim | exact fun _ _ => rfl
theorem sd_tb (S : Sd P F W n) (X : Cx) (c : Ci) (op : BoolOp) (es : List Expr) (m : MT) (pos : Pos) (w : Wd X P.G F) (g : Gd X c) (h : cTb P F W (n + 1) c op es = some m) : SW X (.BoolOp op es pos) m := by
  unfold cTb at h
  split at h
  · cases h
  · split at h
    · cases op with
      | And => exact sw_and1 (S.t _ _ _ _ w g h)
      | Or => exact sw_or1 (S.t _ _ _ _ w g h)
    · split at h
      · rename_i e1 e2
        cases h
        cases op with
        | And => exact sw_and (S.t _ _ _ _ w g e1) (S.tb _ _ _ _ _ _ w g e2)
        | Or => exact sw_or (S.t _ _ _ _ w g e1) (S.tb _ _ _ _ _ _ w g e2)
      · cases h
theorem sd_a (S : Sd P F W n) (X : Cx) (c : Ci) (es : List Expr) (m : MA) (w : Wd X P.G F) (g : Gd X c) (h : cA P F W (n + 1) c es = some m) : SA X es m ∧ es.all plainArg = true := by
  unfold cA at h
  split at h
  · cases h; exact ⟨sa_nil, rfl⟩
  · split at h
    · rename_i hp
      split at h
      · rename_i e1 e2
        cases h
        obtain ⟨q, q2⟩ := S.a _ _ _ _ w g e2
        exact ⟨sa_cons hp (S.e _ _ _ _ w g e1) q, by rw [List.all_cons, hp, q2]; rfl⟩
      · cases h
    · cases h
theorem sd_k (S : Sd P F W n) (X : Cx) (c : Ci) (ks : List Keyword) (m : MA) (w : Wd X P.G F) (g : Gd X c) (h : cK P F W (n + 1) c ks = some m) : SK X ks m := by
  unfold cK at h
  split at h
  · cases h; exact sk_nil
  · rename_i k r
    split at h
    · rename_i e1 e2
      cases h
      cases k
      exact sk_cons (S.e _ _ _ _ w g e1) (S.k _ _ _ _ w g e2)
    · cases h
theorem sd_g (S : Sd P F W n) (X : Cx) (c : Ci) (x : Expr) (sl : List Nat) (m : MG) (w : Wd X P.G F) (g : Gd X c) (h : cG P F W (n + 1) c x = some (sl, m)) : SG X x sl m := by
  unfold cG at h
  split at h
  · split at h
    · rename_i e1
      split at h
      · rename_i hc
        rw [Bool.and_eq_true] at hc
        cases h
        exact sg_name g (ixOf_ok e1) (locB_ok hc.1) (by simpa using hc.2)
      · cases h
    · cases h
  · split at h
    · rename_i hp
      split at h
      · rename_i e1
        cases h
        exact sg_tup g hp (S.gs _ _ _ _ _ w g e1).1
      · cases h
    · cases h
  · split at h
    · rename_i hp
      split at h
      · rename_i e1 e2
        cases h
        exact sg_sub hp (S.e _ _ _ _ w g e1) (S.e _ _ _ _ w g e2)
      · cases h
    · cases h
  · cases h
theorem sd_gs (S : Sd P F W n) (X : Cx) (c : Ci) (es : List Expr) (sl : List Nat) (m : MGs) (w : Wd X P.G F) (g : Gd X c) (h : cGs P F W (n + 1) c es = some (sl, m)) : SGs X es sl m ∧ es.all plainArg = true := by
  unfold cGs at h
  split at h
  · cases h; exact ⟨sgs_nil, rfl⟩
  · split at h
    · rename_i hp
      split at h
      · rename_i e1 e2
        cases h
        obtain ⟨q, q2⟩ := S.gs _ _ _ _ _ w g e2
        exact ⟨sgs_cons hp (S.g _ _ _ _ _ w g e1) q, by rw [List.all_cons, hp, q2]; rfl⟩
      · cases h
    · cases h
theorem isTupE_ok {e : Expr} (h : isTupE e = true) : ∃ es k p, e = .Tuple es k p := by
  unfold isTupE at h
  split at h
  · exact ⟨_, _, _, rfl⟩
  · cases h
theorem sd_i (S : Sd P F W n) (X : Cx) (c : Ci) (tg it : Expr) (m : MI) (w : Wd X P.G F) (g : Gd X c) (h : cI P F W (n + 1) c tg it = some m) : SI X tg it m := by
  unfold cI at h
  split at h
  · rename_i f es kws pos
    split at h
    · rename_i x p
      split at h
      · rename_i hc
        simp only [Bool.and_eq_true, decide_eq_true_eq] at hc
        obtain ⟨⟨⟨⟨⟨rfl, hg⟩, hk⟩, hp⟩, h1⟩, h2⟩ := hc
        obtain ⟨a, e1, rfl⟩ := oMap_some h
        obtain ⟨q, -⟩ := S.a _ _ _ _ w g e1
        have hm : X.mg "range" = none := blt_none w (by decide +kernel)
        match es, kws, h1, h2, hk with
        | [a1], [], _, _, _ =>
          rw [List.all_cons, Bool.and_eq_true] at hp
          exact si_rg1 (glB_ok g hg) hm hp.1 q
        | [a1, a2], [], _, _, _ =>
          rw [List.all_cons, Bool.and_eq_true, List.all_cons, Bool.and_eq_true] at hp
          exact si_rg2 (glB_ok g hg) hm hp.1 hp.2.1 q
        | [], _, h1, _, _ => exact absurd h1 (by decide)
        | _ :: _ :: _ :: _, _, _, h2, _ => exact absurd h2 (by simp)
        | _, _ :: _, _, _, hk => cases hk
      split at h
      · rename_i hc
        simp only [Bool.and_eq_true, decide_eq_true_eq] at hc
        obtain ⟨⟨⟨⟨⟨rfl, hg⟩, hk⟩, hp⟩, h1⟩, h2⟩ := hc
        obtain ⟨a, e1, rfl⟩ := oMap_some h
        obtain ⟨q, -⟩ := S.a _ _ _ _ w g e1
        have hm : X.mg "zip" = none := blt_none w (by decide +kernel)
        obtain ⟨ts, tk, tp, rfl⟩ := isTupE_ok h2
        match es, kws, h1, hk with
        | a1 :: ar, [], _, _ => exact si_zip (glB_ok g hg) hm hp q
        | [], _, h1, _ => exact absurd h1 (by decide)
        | _, _ :: _, _, hk => cases hk
      split at h
      · rename_i hc
        simp only [Bool.and_eq_true, decide_eq_true_eq] at hc
        obtain ⟨⟨⟨⟨⟨rfl, hg⟩, hk⟩, hp⟩, h1⟩, h2⟩ := hc
        obtain ⟨a, e1, rfl⟩ := oMap_some h
        obtain ⟨q, -⟩ := S.a _ _ _ _ w g e1
        have hm : X.mg "enumerate" = none := blt_none w (by decide +kernel)
        obtain ⟨ts, tk, tp, rfl⟩ := isTupE_ok h2
        match es, kws, h1, hk with
        | a1 :: ar, [], _, _ => exact si_enum (glB_ok g hg) hm hp q
        | [], _, h1, _ => exact absurd h1 (by decide)
        | _, _ :: _, _, hk => cases hk
      · obtain ⟨a, e1, rfl⟩ := oMap_some h
        exact si_val (S.e _ _ _ _ w g e1)
    · obtain ⟨a, e1, rfl⟩ := oMap_some h
      exact si_val (S.e _ _ _ _ w g e1)
  · obtain ⟨a, e1, rfl⟩ := oMap_some h
    exact si_val (S.e _ _ _ _ w g e1)
theorem kw_len : ∀ {kws : List Keyword}, (kws.all fun k => k.arg.isSome) = true → (kwNames kws).length = kws.length
  | [], _ => rfl
  | ⟨n, e, kp⟩ :: kws, h => by
    rw [List.all_cons, Bool.and_eq_true] at h
    cases n with
    | none => exact nomatch h.1
    | some x => exact congrArg (· + 1) (kw_len h.2)
theorem sd_call (S : Sd P F W n) (X : Cx) (c : Ci) (f : Expr) (es : List Expr) (kws : List Keyword) (pos : Pos) (m : ME) (w : Wd X P.G F) (g : Gd X c) (h : cE P F W (n + 1) c (.Call f es kws pos) = some m) : SE X (.Call f es kws pos) m := by
  unfold cE at h
  cases f with
  | Name x p =>
    dsimp only at h
    split at h
    · rename_i hc
      rw [Bool.and_eq_true, Bool.and_eq_true] at hc
      obtain ⟨⟨hg, hx⟩, hp⟩ := hc
      obtain ⟨n1, n2, n3⟩ := okNm_ok hx
      split at h
      · rename_i fi hf
        obtain ⟨hm, rfl, hnp, hkw⟩ := findFi_ok hf
        have Wf := w.fs _ hm
        split at h
        · rename_i hks
          split at h
          · rename_i ma mk e1 e2
            cases h
            obtain ⟨qa, -⟩ := S.a _ _ _ _ w g e1
            have qk := S.k _ _ _ _ w g e2
            have hkl : kws.length = fi.kw.length := by rw [hkw, kw_len hks]
            cases kws with
            | nil =>
              show SE X _ (mCall F fi.id fi.arr ma)
              cases es with
              | nil =>
                have e3 : ma = mNil := by
                  cases n with
                  | zero => cases e1
                  | succ n => unfold cA at e1; cases e1; rfl
                rw [e3]
                exact se_call0 Wf w.gq (glB_ok g hg) n1 hkw (by rw [hnp]; rfl)
              | cons e es => exact se_call Wf w.gq (glB_ok g hg) n1 hkw (by rw [hnp]) hp qa
            | cons k ks =>
              show SE X _ (mCallK F fi.id fi.arr ma mk)
              cases es with
              | nil =>
                have e3 : ma = mNil := by
                  cases n with
                  | zero => cases e1
                  | succ n => unfold cA at e1; cases e1; rfl
                rw [e3]
                exact se_callK0 Wf w.gq (glB_ok g hg) n1 hkw.symm hks (by rw [hnp]; rfl) hkl qk
              | cons e es => exact se_callK Wf w.gq (glB_ok g hg) n1 hkw.symm hks (by rw [hnp]) hp hkl qa qk
          · cases h
        · cases h
      · split at h
        · rename_i hk
          cases kws with
          | cons => cases hk
          | nil =>
            split at h
            · rename_i hi
              subst hi
              split at h
              · rename_i a t p2
                split at h
                · rename_i ht
                  split at h
                  · rename_i ty ma e1 e2
                    cases h
                    obtain ⟨q1, q2, q3⟩ := tyOfNm_ok e1
                    subst q1
                    rw [List.all_cons, Bool.and_eq_true] at hp
                    exact se_isi w q2 (glB_ok g hg) (glB_ok g ht) (blt_none w q3) hp.1 (S.e _ _ _ _ w g e2)
                  · cases h
                · cases h
              · cases h
            · split at h
              · rename_i a er
                obtain ⟨p2, pos2, rfl, rfl, hg2, hpa⟩ := rgArg1 er
                split at h
                · rename_i e1
                  cases h
                  exact se_lrg1 _ g.calm (glB_ok g hg) (blt_none w (by decide +kernel)) (glB_ok g hg2) (blt_none w (by decide +kernel)) hpa (S.e _ _ _ _ w g e1)
                · cases h
              · rename_i a b er
                obtain ⟨p2, pos2, rfl, rfl, hg2, hpa, hpb⟩ := rgArg2 er
                split at h
                · rename_i e1 e2
                  cases h
                  exact se_lrg2 _ g.calm (glB_ok g hg) (blt_none w (by decide +kernel)) (glB_ok g hg2) (blt_none w (by decide +kernel)) hpa hpb (S.e _ _ _ _ w g e1) (S.e _ _ _ _ w g e2)
                · cases h
              · split at h
                · rename_i a er
                  obtain ⟨p2, pos2, rfl, rfl, hg2, hpa⟩ := srArg_ok er
                  cases e1 : cE P F W n c a with
                  | none => rw [e1] at h; cases h
                  | some ma =>
                    rw [e1] at h
                    cases h
                    exact se_srt _ w g (glB_ok g hg) (blt_none w (by decide +kernel)) (glB_ok g hg2) (blt_none w (by decide +kernel)) hpa (S.e _ _ _ _ w g e1)
                · split at h
                  · rename_i e1 e2
                    split at h
                    · rename_i hgc
                      cases h
                      exact se_blt (bn_ok w g _ (by assumption) fun q => hgc.resolve_left fun z => z q) (glB_ok g hg) hx hp (S.a _ _ _ _ w g (by assumption)).1
                    · cases h
                  · cases h
        · cases h
    · cases h
  | Attribute o m' ap =>
    dsimp only at h
    split at h
    · rename_i hc
      rw [Bool.and_eq_true, Bool.and_eq_true] at hc
      obtain ⟨⟨hk, hs⟩, hl⟩ := hc
      cases kws with
      | cons => cases hk
      | nil =>
        split at h
        · rename_i a
          split at h
          · rename_i hm
            rw [Bool.and_eq_true, decide_eq_true_eq] at hm
            obtain ⟨rfl, hpa⟩ := hm
            split at h
            · rename_i e1 e2
              cases h
              exact se_mt PySem.F.slot_list_append PySem.F.type_list_append mt_append do_app (base_no hs) hl hpa (S.e _ _ _ _ w g e1) (S.e _ _ _ _ w g e2)
            · cases h
          · split at h
            · rename_i hm
              rw [Bool.and_eq_true, decide_eq_true_eq] at hm
              obtain ⟨rfl, hpa⟩ := hm
              split at h
              · rename_i e1 e2
                cases h
                exact se_mt PySem.F.slot_list_pop PySem.F.type_list_pop mt_popAt do_popAt (base_no hs) hl hpa (S.e _ _ _ _ w g e1) (S.e _ _ _ _ w g e2)
              · cases h
            · cases h
        · split at h
          · rename_i hm
            subst hm
            obtain ⟨a, e1, rfl⟩ := oMap_some h
            exact se_mt0 PySem.F.slot_list_pop PySem.F.type_list_pop mt_pop do_pop (base_no hs) hl (S.e _ _ _ _ w g e1)
          · cases h
        · cases h
    · cases h
  | _ => cases h
theorem sd_e (S : Sd P F W n) (X : Cx) (c : Ci) (x : Expr) (m : ME) (w : Wd X P.G F) (g : Gd X c) (h : cE P F W (n + 1) c x = some m) : SE X x m := by
  cases x with
  | Call f es kws pos => exact sd_call S X c f es kws pos m w g h
  | Constant k j pos => unfold cE at h; exact se_ccst h
  | Name x pos => unfold cE at h; exact se_cname w g h
  | UnaryOp op a pos => unfold cE at h; exact se_cun h fun x hx => S.e _ _ _ _ w g hx
  | BinOp a op b pos => unfold cE at h; exact se_cbin h (fun x hx => S.e _ _ _ _ w g hx) fun x hx => S.e _ _ _ _ w g hx
  | BoolOp op es pos => unfold cE at h; exact S.bo _ _ _ _ _ _ w g h
  | Compare a ops bs pos =>
    unfold cE at h
    rcases oOr_some h with h | h
    · exact (tin_both w g h fun x hx => S.e _ _ _ _ w g hx).1
    · exact (cmp_both w h (fun x hx => S.e _ _ _ _ w g hx) fun b x hx => S.e _ _ _ _ w g hx).1
  | IfExp t a b pos =>
    unfold cE at h
    dsimp only at h
    split at h
    · rename_i e1 e2 e3
      cases h
      exact se_if (S.t _ _ _ _ w g e1) (S.e _ _ _ _ w g e2) (S.e _ _ _ _ w g e3)
    · cases h
  | Tuple es k pos =>
    unfold cE at h
    obtain ⟨a, e1, rfl⟩ := oMap_some h
    exact se_tup (S.a _ _ _ _ w g e1).1
  | List es pos =>
    unfold cE at h
    obtain ⟨a, e1, rfl⟩ := oMap_some h
    exact se_lst _ (S.a _ _ _ _ w g e1).1
  | Dict ks vs pos =>
    unfold cE at h
    dsimp only at h
    split at h
    · rename_i hc
      rw [Bool.and_eq_true] at hc
      cases ks with
      | cons => cases hc.1
      | nil =>
        cases vs with
        | cons => cases hc.2
        | nil => cases h; exact se_dct
    · cases h
  | Subscript a i pos =>
    unfold cE at h
    dsimp only at h
    split at h
    · rename_i lo hi st p2
      split at h
      · split at h
        · rename_i e1 e2 e3
          cases h
          exact se_sl (S.e _ _ _ _ w g e1) (S.o _ _ _ _ w g e2) (S.o _ _ _ _ w g e3)
        · cases h
      · rename_i s
        split at h
        · rename_i hc
          rw [Bool.and_eq_true, Bool.and_eq_true] at hc
          obtain ⟨⟨h1, h2⟩, h3⟩ := hc
          obtain ⟨a', e1, rfl⟩ := oMap_some h
          obtain ⟨k, q1, q2, q3⟩ := isOne_ok h1
          cases q3
          cases lo with
          | some => cases h2
          | none =>
            cases hi with
            | some => cases h3
            | none => exact se_rev (S.e _ _ _ _ w g e1)
        · cases h
    · rename_i hns
      rcases oOr_some h with h | h
      · exact tget_ok w g (by cases i <;> first | exact (hns _ _ _ _ rfl).elim | exact fun _ _ => rfl) h fun x hx => S.e _ _ _ _ w g hx
      · split at h
        · rename_i e1 e2
          cases h
          exact se_op2 (pe_ix ix_seq pe_re pe_re (by cases i <;> first | exact (hns _ _ _ _ rfl).elim | exact fun _ _ => rfl)) (S.e _ _ _ _ w g e1) (S.e _ _ _ _ w g e2) do_ix
        · cases h
  | ListComp elt gens scope pos =>
    unfold cE at h
    obtain ⟨tg, it, ifs, own, sl, g', mt, me, mi, rfl, rfl, h1, h2, h3, h4, h5, h6, h7⟩ := S.lc _ _ _ _ _ _ _ w g h
    exact se_lc _ g h1 h2 h3 h4 h5 h6 h7
  | _ => cases h
theorem sd_all (P : Cfg) (F : Fn) (W : Nat) : ∀ n : Nat, Sd P F W n
  | 0 => by
    constructor
    all_goals intros
    all_goals first
      | (rename_i h; unfold cE at h; cases h)
      | (rename_i h; unfold cLc at h; cases h)
      | (rename_i h; unfold cIf at h; cases h)
      | (rename_i h; unfold cO at h; cases h)
      | (rename_i h; unfold cBo at h; cases h)
      | (rename_i h; unfold cT at h; cases h)
      | (rename_i h; unfold cTb at h; cases h)
      | (rename_i h; unfold cA at h; cases h)
      | (rename_i h; unfold cK at h; cases h)
      | (rename_i h; unfold cG at h; cases h)
      | (rename_i h; unfold cGs at h; cases h)
      | (rename_i h; unfold cI at h; cases h)
  | n + 1 =>
    have S := sd_all P F W n
    ⟨sd_e S, sd_lc S, sd_f S, sd_o S, sd_bo S, sd_t S, sd_tb S, sd_a S, sd_k S, sd_g S, sd_gs S, sd_i S⟩
end
end Rf
set_option maxHeartbeats 4000000
namespace Rf
open PySem PySem.Spec L2
open PyProof.Rows hiding St
/-! ## statements: from the text to its meaning -/
def isNm : Expr → Bool
  | .Name .. => true
  | _ => false
/-- the stores of such a pair come in their order -/
def noSwap (t e : Expr) : Bool := match t with
  | .Tuple ts _ _ => match e with
    | .Tuple vs _ _ => !(ts.length == 2 || ts.length == 3) || vs.length != ts.length || !(ts.all isNm) || vs.all (foldedForSure 8)
    | _ => true
  | .List .. => false
  | _ => true
theorem fm_len {β : Type} {f : Expr → Option β} (hf : ∀ e, isNm e = false → f e = none) : ∀ {ts : List Expr}, ts.all isNm = false → (ts.filterMap f).length < ts.length
  | [], h => by cases h
  | t :: ts, h => by
    rw [List.all_cons] at h
    cases q : isNm t with
    | false =>
      rw [List.filterMap_cons, hf t q]
      exact Nat.lt_succ_of_le (List.length_filterMap_le _ _)
    | true =>
      rw [q, Bool.true_and] at h
      have ih := fm_len hf h
      rw [List.filterMap_cons]
      cases f t with
      | none => exact Nat.lt_succ_of_lt ih
      | some b => exact Nat.succ_lt_succ ih
theorem noSwap_ok {t e : Expr} (h : noSwap t e = true) (env : Env) : swappedStores [t] e env = pure none := by
  cases t with
  | List => cases h
  | Tuple ts k pt =>
    cases e with
    | Tuple vs k2 p2 =>
      have h' : (!(ts.length == 2 || ts.length == 3) || vs.length != ts.length || !(ts.all isNm) || vs.all (foldedForSure 8)) = true := h
      unfold swappedStores
      dsimp only
      by_cases c1 : (!(ts.length == 2 || ts.length == 3) || vs.length != ts.length || env.blockKind != .function) = true
      · rw [if_pos c1]
      rw [if_neg c1]
      split
      · rfl
      by_cases c2 : ts.all isNm = true
      · have c3 : vs.all (foldedForSure 8) = true := by
          rw [c2] at h'
          simp only [Bool.or_eq_true, not_or] at c1
          simp only [Bool.or_eq_true, Bool.not_true, Bool.false_eq_true, or_false] at h'
          rcases h' with h' | h'
          · rcases h' with h' | h'
            · exact absurd h' c1.1.1
            · exact absurd h' c1.1.2
          · exact h'
        split
        · rfl
        · first | rfl | rw [if_pos c3]
      · rw [if_pos]
        have := fm_len (f := fun x => match x with
          | .Name id pos => if (env.kindOf id == some .local && pos.line == (ts.head?.map (·.pos.line)).getD 0) = true then some id else none
          | _ => none) (fun e he => by cases e <;> first | rfl | cases he) (ts := ts) (by simpa using c2)
        rw [Bool.or_eq_true]
        left
        exact bne_iff_ne.mpr (Nat.ne_of_lt this)
    | _ => rfl
  | _ => rfl
/-- one of them is no plain local name -/
def offLoc (c : Ci) (e : Expr) : Bool := match e with
  | .Name x _ => !decide (c.sc.names.lookup x = some .local)
  | _ => true
def noSwapC (c : Ci) (t e : Expr) : Bool := match t, e with
  | .Tuple ts _ _, .Tuple _ _ _ => ts.any (offLoc c)
  | _, _ => false
theorem fm_len2 {β : Type} {f : Expr → Option β} {p : Expr → Bool} (hf : ∀ e, p e = true → f e = none) : ∀ {ts : List Expr}, ts.any p = true → (ts.filterMap f).length < ts.length
  | [], h => by cases h
  | t :: ts, h => by
    rw [List.any_cons] at h
    cases q : p t with
    | true =>
      rw [List.filterMap_cons, hf t q]
      exact Nat.lt_succ_of_le (List.length_filterMap_le _ _)
    | false =>
      rw [q, Bool.false_or] at h
      have ih := fm_len2 hf h
      rw [List.filterMap_cons]
      cases f t with
      | none => exact Nat.lt_succ_of_lt ih
      | some b => exact Nat.succ_lt_succ ih
theorem noSwapC_ok {X : Cx} {c : Ci} (g : Gd X c) {t e : Expr} (h : noSwapC c t e = true) : swappedStores [t] e X.env = pure none := by
  unfold noSwapC at h
  split at h
  · rename_i ts k pt vs k2 p2
    unfold swappedStores
    dsimp only
    by_cases c1 : (!(ts.length == 2 || ts.length == 3) || vs.length != ts.length || X.env.blockKind != .function) = true
    · rw [if_pos c1]
    rw [if_neg c1]
    split
    · rfl
    · rw [if_pos]
      have := fm_len2 (p := offLoc c) (f := fun x => match x with
        | .Name id pos => if (X.env.kindOf id == some .local && pos.line == (ts.head?.map (·.pos.line)).getD 0) = true then some id else none
        | _ => none) (fun e he => by
          cases e with
          | Name x p =>
            have h1 : X.env.kindOf x = c.sc.names.lookup x := by show X.env.scope.names.lookup x = _; rw [g.hsc]
            have h2 : ¬ c.sc.names.lookup x = some .local := by simpa [offLoc] using he
            show (if (X.env.kindOf x == some .local && p.line == (ts.head?.map (·.pos.line)).getD 0) = true then some x else none) = none
            rw [h1]
            simp [h2]
          | _ => rfl) (ts := ts) h
      rw [Bool.or_eq_true]
      left
      exact bne_iff_ne.mpr (Nat.ne_of_lt this)
  · cases h
/-- two plain local names on a line: stored from the right -/
def swap2 (c : Ci) (x y : Str) (px py : Pos) (a b : Expr) : Bool :=
  decide (c.sc.names.lookup x = some .local) && decide (c.sc.names.lookup y = some .local) && decide (c.sc.kind = .function) && !(x == y) && (py.line == px.line) && plainArg a && plainArg b && !([a, b].all (foldedForSure 8)) && !([a, b].all (constantsAlone 8))
theorem star_no {vs : List Expr} (h : vs.all plainArg = true) : (vs.any fun | .Starred .. => true | _ => false) = false := by
  induction vs with
  | nil => rfl
  | cons v vs ih =>
    rw [List.all_cons, Bool.and_eq_true] at h
    rw [List.any_cons, ih h.2, Bool.or_false]
    cases v <;> first | rfl | cases h.1
theorem swap2_ok {X : Cx} {c : Ci} (g : Gd X c) {x y : Str} {px py pt p2 : Pos} {a b : Expr} {k k2} (h : swap2 c x y px py a b = true) : swappedStores [.Tuple [.Name x px, .Name y py] k pt] (.Tuple [a, b] k2 p2) X.env = pure (some [x, y]) := by
  unfold swap2 at h
  simp only [Bool.and_eq_true, decide_eq_true_eq, Bool.not_eq_true'] at h
  obtain ⟨⟨⟨⟨⟨⟨⟨⟨h1, h2⟩, h3⟩, h4⟩, h5⟩, h6⟩, h7⟩, h8⟩, h9⟩ := h
  have k1 : X.env.kindOf x = some .local := by show X.env.scope.names.lookup x = _; rw [g.hsc]; exact h1
  have k2 : X.env.kindOf y = some .local := by show X.env.scope.names.lookup y = _; rw [g.hsc]; exact h2
  have k3 : X.env.blockKind = .function := by unfold Env.blockKind; rw [g.hsc, h3]; rfl
  have hst := star_no (vs := [a, b]) (by simp [h6, h7])
  have hpx : (Expr.Name x px).pos = px := rfl
  have e1 : ([.Name x px, .Name y py] : List Expr).filterMap (fun
    | .Name id pos => if (X.env.kindOf id == some .local && pos.line == px.line) = true then some id else none
    | _ => none) = [x, y] := by
    simp only [List.filterMap_cons, List.filterMap_nil, k1, k2, h5, beq_self_eq_true, Bool.and_self, if_true]
  have e2 : [x, y].eraseDups = [x, y] := by
    have : (y == x) = false := by
      cases q : (y == x) with
      | false => rfl
      | true => rw [eq_of_beq q, beq_self_eq_true] at h4; cases h4
    simp [List.eraseDups_cons, this]
  unfold swappedStores
  dsimp only [pure_bind]
  rw [if_neg (by rw [k3]; exact Bool.false_ne_true)]
  refine (if_neg (fun (z : _ = true) => Bool.false_ne_true (hst.symm.trans z))).trans ?_
  simp only [List.filterMap_cons, List.filterMap_nil, List.head?_cons, Option.map_some, Option.getD_some, hpx, k1, k2, h5, beq_self_eq_true, Bool.and_self, if_true, e2, h8, h9]
  rfl
/-- a pair of names takes a pair -/
def mPar (i j : Nat) (ma : MA) : MS := fun env st => (ma env st).bd fun ds s => match ds with
  | [x, y] => .ok (.nx ((env.set i (some x)).set j (some y))) s
  | _ => .bad
theorem sx_par {X : Cx} {c : Ci} (g : Gd X c) {i j : Nat} {x y : Str} {px py pt p2 pos : Pos} {a b : Expr} {k k2} {ma : MA} (h : swap2 c x y px py a b = true) (hi : c.N[i]? = some x) (hj : c.N[j]? = some y) (ha : SA X [a, b] ma) : SX X (.Assign [.Tuple [.Name x px, .Name y py] k pt] (.Tuple [a, b] k2 p2) pos) (mPar i j ma) := by
  intro ξ ρ H σ env s E e0 hr w
  have h' := h
  unfold swap2 at h'
  simp only [Bool.and_eq_true, decide_eq_true_eq, Bool.not_eq_true'] at h'
  obtain ⟨⟨⟨⟨⟨⟨⟨⟨h1, h2⟩, h3⟩, h4⟩, h5⟩, h6⟩, h7⟩, h8⟩, h9⟩ := h'
  have hij : i ≠ j := fun e => by
    subst e
    rw [hi] at hj
    cases hj
    rw [beq_self_eq_true] at h4
    cases h4
  refine (ps_par g.calm (by rw [g.hN]; exact g.nd) (by rw [g.hN]; exact hi) (by rw [g.hN]; exact hj) hij (by rw [g.hsc]; exact h1) (by rw [g.hsc]; exact h2) pa_ra (swap2_ok g h)).rx ?_
  refine ha ξ ρ H σ env s _ e0 hr (R.wp_mono (R.wp_bd.mp w) fun ds s1 w1 ρ1 H1 vs x1 h1' r1 hl => ?_)
  cases r1 with
  | nil => exact w1.elim
  | cons q r =>
    cases r with
    | nil => exact w1.elim
    | cons q2 r =>
      cases r with
      | cons => exact w1.elim
      | nil => exact ⟨_, _, rfl, w1 ρ1 H1 _ x1 h1' (((e0.xt x1).set q).set q2)⟩
def swap3 (c : Ci) (x y z : Str) (px py pz : Pos) (vs : List Expr) : Bool :=
  decide (c.sc.names.lookup x = some .local) && decide (c.sc.names.lookup y = some .local) && decide (c.sc.names.lookup z = some .local) && decide (c.sc.kind = .function) && !(x == y) && !(x == z) && !(y == z) && (py.line == px.line) && (pz.line == px.line) && vs.all plainArg && !(vs.all (foldedForSure 8)) && !(vs.all (constantsAlone 8))
theorem nbeq {x y : Str} (h : (x == y) = false) : x ≠ y ∧ (y == x) = false := by
  have n : x ≠ y := fun e => by
    rw [e, beq_self_eq_true] at h
    cases h
  refine ⟨n, ?_⟩
  cases q : (y == x) with
  | false => rfl
  | true => exact absurd (eq_of_beq q).symm n
theorem swap3_ok {X : Cx} {c : Ci} (g : Gd X c) {x y z : Str} {px py pz pt p2 : Pos} {a b d : Expr} {k k2} (h : swap3 c x y z px py pz [a, b, d] = true) : swappedStores [.Tuple [.Name x px, .Name y py, .Name z pz] k pt] (.Tuple [a, b, d] k2 p2) X.env = pure (some [x, y, z]) := by
  unfold swap3 at h
  simp only [Bool.and_eq_true, decide_eq_true_eq, Bool.not_eq_true'] at h
  obtain ⟨⟨⟨⟨⟨⟨⟨⟨⟨⟨⟨h1, h2⟩, h2'⟩, h3⟩, h4⟩, h4'⟩, h4''⟩, h5⟩, h5'⟩, h6⟩, h8⟩, h9⟩ := h
  have k1 : X.env.kindOf x = some .local := by show X.env.scope.names.lookup x = _; rw [g.hsc]; exact h1
  have k2 : X.env.kindOf y = some .local := by show X.env.scope.names.lookup y = _; rw [g.hsc]; exact h2
  have k2' : X.env.kindOf z = some .local := by show X.env.scope.names.lookup z = _; rw [g.hsc]; exact h2'
  have k3 : X.env.blockKind = .function := by unfold Env.blockKind; rw [g.hsc, h3]; rfl
  have hst := star_no h6
  have hpx : (Expr.Name x px).pos = px := rfl
  have e1 : ([.Name x px, .Name y py, .Name z pz] : List Expr).filterMap (fun
    | .Name id pos => if (X.env.kindOf id == some .local && pos.line == px.line) = true then some id else none
    | _ => none) = [x, y, z] := by
    simp only [List.filterMap_cons, List.filterMap_nil, k1, k2, k2', h5, h5', beq_self_eq_true, Bool.and_self, if_true]
  have e2 : [x, y, z].eraseDups = [x, y, z] := by
    simp [List.eraseDups_cons, (nbeq h4).2, (nbeq h4').2, (nbeq h4'').2]
  unfold swappedStores
  dsimp only [pure_bind]
  rw [if_neg (by rw [k3]; exact Bool.false_ne_true)]
  refine (if_neg (fun (z : _ = true) => Bool.false_ne_true (hst.symm.trans z))).trans ?_
  simp only [List.filterMap_cons, List.filterMap_nil, List.head?_cons, Option.map_some, Option.getD_some, hpx, k1, k2, k2', h5, h5', beq_self_eq_true, Bool.and_self, if_true, e2, h8, h9]
  rfl
def mPar3 (i j l : Nat) (ma : MA) : MS := fun env st => (ma env st).bd fun ds s => match ds with
  | [x, y, z] => .ok (.nx (((env.set i (some x)).set j (some y)).set l (some z))) s
  | _ => .bad
theorem sx_par3 {X : Cx} {c : Ci} (g : Gd X c) {i j l : Nat} {x y z : Str} {px py pz pt p2 pos : Pos} {a b d : Expr} {k k2} {ma : MA} (h : swap3 c x y z px py pz [a, b, d] = true) (hi : c.N[i]? = some x) (hj : c.N[j]? = some y) (hl : c.N[l]? = some z) (ha : SA X [a, b, d] ma) : SX X (.Assign [.Tuple [.Name x px, .Name y py, .Name z pz] k pt] (.Tuple [a, b, d] k2 p2) pos) (mPar3 i j l ma) := by
  intro ξ ρ H σ env s E e0 hr w
  have h' := h
  unfold swap3 at h'
  simp only [Bool.and_eq_true, decide_eq_true_eq, Bool.not_eq_true'] at h'
  obtain ⟨⟨⟨⟨⟨⟨⟨⟨⟨⟨⟨h1, h2⟩, h2'⟩, h3⟩, h4⟩, h4'⟩, h4''⟩, h5⟩, h5'⟩, h6⟩, h8⟩, h9⟩ := h'
  have ne : ∀ {i j : Nat} {x y : Str}, c.N[i]? = some x → c.N[j]? = some y → (x == y) = false → i ≠ j := fun hi hj h e => by
    subst e
    rw [hi] at hj
    cases hj
    exact (nbeq h).1 rfl
  refine (ps_par3 g.calm (by rw [g.hN]; exact g.nd) (by rw [g.hN]; exact hi) (by rw [g.hN]; exact hj) (by rw [g.hN]; exact hl) (ne hi hj h4) (ne hi hl h4') (ne hj hl h4'') (by rw [g.hsc]; exact h1) (by rw [g.hsc]; exact h2) (by rw [g.hsc]; exact h2') pa_ra (swap3_ok g h)).rx ?_
  refine ha ξ ρ H σ env s _ e0 hr (R.wp_mono (R.wp_bd.mp w) fun ds s1 w1 ρ1 H1 vs x1 h1' r1 hl => ?_)
  cases r1 with
  | nil => exact w1.elim
  | cons q r =>
    cases r with
    | nil => exact w1.elim
    | cons q2 r =>
      cases r with
      | nil => exact w1.elim
      | cons q3 r =>
        cases r with
        | cons => exact w1.elim
        | nil => exact ⟨_, _, _, rfl, w1 ρ1 H1 _ x1 h1' ((((e0.xt x1).set q).set q2).set q3)⟩
end Rf
set_option maxHeartbeats 4000000
namespace Rf
open PySem PySem.Spec L2
open PyProof.Rows hiding St
/-! ## the meaning of statements -/
def lcOk (c : Ci) (y : Str) (py pos : Pos) (scope : Scope) : Bool := decide (c.sc.kind = .function) && decide (c.sc.names.lookup y = some .local) && (py.line == pos.line) && !(scope.names.any fun (n, k) => n == y && (k == .local || k == .cell))
def oBad {α : Type} (o : Option α) (f : α → MS) : MS := match o with
  | some a => f a
  | none => mBad
/-- a pair, a triple of names takes its values -/
def cPar (c : Ci) (t e : Expr) (ma : List Expr → Option MA) : MS := match t, e with
  | .Tuple [.Name x px, .Name y py] _ _, .Tuple [a, b] _ _ => if swap2 c x y px py a b then
      match ixOf c.N x, ixOf c.N y, ma [a, b] with
      | some i, some j, some m => mPar i j m
      | _, _, _ => mBad
    else mBad
  | .Tuple [.Name x px, .Name y py, .Name z pz] _ _, .Tuple [a, b, d] _ _ => if swap3 c x y z px py pz [a, b, d] then
      match ixOf c.N x, ixOf c.N y, ixOf c.N z, ma [a, b, d] with
      | some i, some j, some l, some m => mPar3 i j l m
      | _, _, _, _ => mBad
    else mBad
  | _, _ => mBad
mutual
def cS (P : Cfg) (F : Fn) (W : Nat) : Nat → Ci → Stmt → MS
  | 0, _, _ => mBad
  | n + 1, c, st => match st with
    | .Pass _ => mPass
    | .Break _ => mBrk
    | .Continue _ => mCnt
    | .Expr e _ => if noComp e then oBad (cE P F W n c e) mExp else mBad
    | .Return none _ => mRetN
    | .Return (some e) _ => oBad (cE P F W n c e) mRet
    | .If t a b _ => oBad (cT P F W n c t) fun mt => mIfS mt (cSs P F W n c a) (cSs P F W n c b)
    | .While t b o _ => if o.isEmpty then oBad (cT P F W n c t) fun mt => mWhl W mt (cSs P F W n c b) else mBad
    | .For tg it b o _ => if o.isEmpty && noSet it then oBad (cG P F W n c tg) fun g => oBad (cI P F W n c tg it) fun mi => mFor g.2 mi (cSs P F W n c b) else mBad
    | .Assign ts e pos => match ts with
      | [t] => if noComp e then
          if (noSwap t e || noSwapC c t e) && plainArg t then oBad (cG P F W n c t) fun g => oBad (cE P F W n c e) fun m => mAsg g.2 m
          else cPar c t e (cA P F W n c)
        else match t, e with
          | .Name y py, .ListComp elt gens scope lpos => if lcOk c y py lpos scope then oBad (ixOf c.N y) fun i => oBad (cLc P F W n c elt gens scope (P.m lpos)) fun m => mAsg (gNm i) m else mBad
          | _, _ => mBad
      | _ => mBad
    | _ => mBad
def cSs (P : Cfg) (F : Fn) (W : Nat) : Nat → Ci → List Stmt → MS
  | 0, _, _ => mBad
  | n + 1, c, sts => match sts with
    | [] => mPass
    | st :: r => match r with
      | [] => cS P F W n c st
      | r => mSeq (cS P F W n c st) (cSs P F W n c r)
end
section
variable {X : Cx} {P : Cfg} {F : Fn} {W : Nat} {c : Ci}
theorem ss_bad {sts : List Stmt} : SS X sts mBad := fun ξ ρ H σ env s E e0 hr w => w.elim
theorem sx_oBad {α : Type} {o : Option α} {f : α → MS} {st : Stmt} (h : ∀ a, o = some a → SX X st (f a)) : SX X st (oBad o f) := by
  cases o with
  | none => exact sx_bad
  | some a => exact h a rfl
theorem sx_cPar {t e : Expr} {ma : List Expr → Option MA} {pos : Pos} (g : Gd X c) (h : ∀ es m, ma es = some m → SA X es m) : SX X (.Assign [t] e pos) (cPar c t e ma) := by
  unfold cPar
  split
  · split
    · split
      · exact sx_par g (by assumption) (ixOf_ok (by assumption)) (ixOf_ok (by assumption)) (h _ _ (by assumption))
      · exact sx_bad
    · exact sx_bad
  · split
    · split
      · rename_i e1 e2 e3 e4
        exact sx_par3 g (by assumption) (ixOf_ok e1) (ixOf_ok e2) (ixOf_ok e3) (h _ _ e4)
      · exact sx_bad
    · exact sx_bad
  · exact sx_bad
theorem sx_all (w : Wd X P.G F) (g : Gd X c) : ∀ n : Nat, (∀ st, SX X st (cS P F W n c st)) ∧ ∀ sts, SS X sts (cSs P F W n c sts)
  | 0 => ⟨fun st => by unfold cS; exact sx_bad, fun sts => by unfold cSs; exact ss_bad⟩
  | n + 1 => by
    obtain ⟨ih, ihs⟩ := sx_all w g n
    have S := sd_all P F W n
    refine ⟨fun st => ?_, fun sts => ?_⟩
    · unfold cS
      split
      · exact sx_pass
      · exact sx_brk
      · exact sx_cnt
      · split
        · exact sx_oBad fun m e1 => sx_exp (by assumption) (S.e _ _ _ _ w g e1)
        · exact sx_bad
      · exact sx_retN
      · exact sx_oBad fun m e1 => sx_ret (S.e _ _ _ _ w g e1)
      · exact sx_oBad fun m e1 => sx_if (S.t _ _ _ _ w g e1) (ihs _) (ihs _)
      · rename_i t b o p
        split
        · rename_i ho
          cases o with
          | cons => cases ho
          | nil => exact sx_oBad fun m e1 => sx_while g (S.t _ _ _ _ w g e1) (ihs _)
        · exact sx_bad
      · rename_i tg it b o p
        split
        · rename_i ho
          rw [Bool.and_eq_true] at ho
          cases o with
          | cons => cases ho.1
          | nil => exact sx_oBad fun m e1 => sx_oBad fun mi e2 => sx_for g ho.2 (S.g _ _ _ _ _ w g e1) (S.i _ _ _ _ _ w g e2) (ihs _)
        · exact sx_bad
      · split
        · split
          · rename_i hn
            split
            · rename_i hc
              rw [Bool.and_eq_true] at hc
              exact sx_oBad fun m e1 => sx_oBad fun mi e2 => sx_asg hn (by rcases Bool.or_eq_true_iff.mp hc.1 with q | q; exact noSwap_ok q _; exact noSwapC_ok g q) hc.2 (S.g _ _ _ _ _ w g e1) (S.e _ _ _ _ w g e2)
            · exact sx_cPar g fun es m e1 => (S.a _ _ _ _ w g e1).1
          · split
            · split
              · rename_i hc
                unfold lcOk at hc
                simp only [Bool.and_eq_true, decide_eq_true_eq, Bool.not_eq_true'] at hc
                obtain ⟨⟨⟨h1, h2⟩, h3⟩, h4⟩ := hc
                refine sx_oBad fun i e1 => sx_oBad fun m e2 => ?_
                obtain ⟨tg, it, ifs, own, sl, g', mt, me, mi, rfl, rfl, q1, q2, q3, q4, q5, q6, q7⟩ := S.lc _ _ _ _ _ _ _ w g e2
                exact sx_setLc _ g h1 (ixOf_ok e1) h2 h3 h4 q1 q2 q3 q4 q5 q6 q7
              · exact sx_bad
            · exact sx_bad
        · exact sx_bad
      · exact sx_bad
    · unfold cSs
      split
      · exact ss_nil
      · split
        · exact ss_one (ih _)
        · exact ss_cons (ih _) (ihs _)
end
end Rf
set_option maxHeartbeats 4000000
namespace Rf
open PySem PySem.Spec L2
open PyProof.Rows hiding St
/-! ## defs by number -/
structure Pd where
  d : He.DefD
  N : List Str
  ps : List Str
def Pd.ci (p : Pd) : Ci := ⟨p.d.scope, p.N, p.N⟩
/-- a call: the body's meaning over the arguments -/
def runB (np tot : Nat) (m : MS) (ds : List D) (st : Sto) : R D := if ds.length = np then (m (ds.map some ++ List.replicate (tot - np) none) st).bd fun f s => match f with
    | .nx _ => .ok .non s
    | .rt d => .ok d s
    | _ => .bad
  else .bad
abbrev Bds := Nat → Fn → Nat × Nat × MS
def callN (B : Bds) : Nat → Fn
  | 0 => fun _ _ _ => .bad
  | n + 1 => fun id ds st => runB (B id (callN B n)).1 (B id (callN B n)).2.1 (B id (callN B n)).2.2 ds st
def bdsOf (Pl : List Pd) (P : Cfg) (W fu : Nat) : Bds := fun id F => match Pl[id]? with
  | some p => (p.ps.length, p.N.length, cSs P F W fu p.ci p.d.body)
  | none => (0, 0, mBad)
/-- how a call's arguments come to the parameters -/
def BindQ (p : Pd) (e : Fi) : Prop := ∀ (K : PySem.W.Frag) (f : Addr) (fd : FuncData), FunD K p.d.name p.d.qual p.d.params p.d.body p.d.scope (p.d.dvs K) (p.d.kws K) f fd →
  ∀ (s : Shared) (us ws : List Value), K.In s.heap → us.length = e.np → ws.length = e.kw.length → ∃ zs, BindsTo s fd ⟨us, e.kw.zip ws⟩ (p.ps.zip zs) ∧
    Paired (fun (a : Src) (z : Value) => match a with | .at i => (us ++ ws)[i]? = some z | .int i => ∃ t, z = .int i t) e.arr zs
theorem bindQ0 {p : Pd} {e : Fi} (hd : p.d.dfl = [])
    (h : ∀ (kV doc pm : Value) (an : Option Addr) (cdv ct : Value) (us ws : List Value), us.length = e.np → ws.length = e.kw.length → ∃ zs, bindArgs (PySem.W.fnOf p.d.name p.d.qual p.d.params p.d.body p.d.scope .none kV doc pm an cdv ct) ⟨us, e.kw.zip ws⟩ = pure (p.ps.zip zs) ∧
      Paired (fun (a : Src) (z : Value) => match a with | .at i => (us ++ ws)[i]? = some z | .int i => ∃ t, z = .int i t) e.arr zs) : BindQ p e := by
  intro K f fd Fd s us ws X h1 h2
  obtain ⟨oc, od, dV, kV, doc, pm, an, cdv, ct, osl, rfl, lk, hcd, hD, hK⟩ := Fd.ex
  have e0 : p.d.dvs K = [] := by unfold He.DefD.dvs; rw [hd]; rfl
  rw [e0] at hD
  rcases hD with ⟨_, rfl⟩ | ⟨q, _⟩
  · obtain ⟨zs, q1, q2⟩ := h kV doc pm an cdv ct us ws h1 h2
    exact ⟨zs, .of_eq q1, q2⟩
  · exact absurd rfl q
/-- what the head has told -/
structure Tp (K : PySem.W.Frag) (w : World) (mg : Str → Option Value) (Pl : List Pd) (G : Gi) : Prop where
  df : ∀ (id : Nat) (p : Pd), Pl[id]? = some p → ∃ fd, FunD K p.d.name p.d.qual p.d.params p.d.body p.d.scope (p.d.dvs K) (p.d.kws K) (He.fAd K p.d.at_) fd
  sc : ∀ p ∈ Pl, FnScope p.N p.ps p.d.scope
  fs : ∀ e ∈ G.fs, ∃ p, Pl[e.id]? = some p ∧ mg e.nm = some (.ref (He.fAd K p.d.at_)) ∧ p.ps.length = e.arr.length ∧ BindQ p e
  bl : ∀ z ∈ blts, mg z.1 = none
  cs : ∀ z ∈ G.cs, ∃ u v, mg z.1 = some u ∧ RelV v u ∧ ∀ ξ ρ H, Rp ⟨K, ξ⟩ ρ H v z.2
  gcd : G.gcd = true → mg "gcd" = some (.builtin "math.gcd")
  tb : ∀ t ∈ G.ts, ∃ a, mg t.1 = some (.ref a) ∧ TbK K w a t.2
theorem er_start {K : Kx} {ρ : List Addr} {H : Hp} {N : List Str} {vs : List V} {ds : List D} (r : Rps K ρ H vs ds) : Er K ρ H (L2.start N vs) (ds.map some ++ List.replicate (N.length - ds.length) none) := by
  have hl := r.length
  constructor
  · unfold L2.start
    simp [hl]
  · intro i d h
    unfold L2.start
    by_cases hi : i < ds.length
    · rw [List.getElem?_append_left (by simpa using hi)] at h
      rw [List.getElem?_append_left (by simpa [hl] using hi)]
      rw [List.getElem?_map] at h
      cases e : ds[i]? with
      | none => rw [e] at h; cases h
      | some d' =>
        rw [e] at h
        cases h
        obtain ⟨v, q1, q2⟩ := r.get e
        exact ⟨v, by rw [List.getElem?_map, q1]; rfl, q2⟩
    · rw [List.getElem?_append_right (by simpa using hi)] at h
      rw [List.getElem?_replicate] at h
      split at h <;> cases h
section
variable {P : Program} {w : World} {K : PySem.W.Frag} {mg : Str → Option Value} {base : Heap} {Pl : List Pd} {C : Cfg} {W fu : Nat}
theorem gq_deeper {A : Around} (h : Gq A) (e : Env) : Gq (A.deeper e) := h
theorem fg_all (T : Tp K w mg Pl C.G) : ∀ (n id : Nat) (p : Pd) (fd : FuncData), Pl[id]? = some p → FunD K p.d.name p.d.qual p.d.params p.d.body p.d.scope (p.d.dvs K) (p.d.kws K) (He.fAd K p.d.at_) fd →
    Fg P w K mg base (n + 1) (He.fAd K p.d.at_) fd p.ps (spF K (callN (bdsOf Pl C W fu) n) id p.ps.length)
  | 0, id, p, fd, hp, Fd => ⟨fun vs H Q h => h.1, fun A outer s H args us vs Q hg hr e0 hb r h => by
      obtain ⟨_, ξ, ρ, st, ds, _, _, h⟩ := h
      exact h.elim⟩
  | n + 1, id, p, fd, hp, Fd => by
    obtain ⟨oc, od, dV, kV, doc, pm, an, cdv, ct, osl, rfl, lk, hcd, hD, hK⟩ := Fd.ex
    have S := T.sc p (List.mem_of_getElem? hp)
    refine Fg.body lk hcd S (fun vs H Q h => h.1) fun A outer s H vs Q hg hr h => ⟨_, pss_rs, ?_⟩
    obtain ⟨hl, ξ, ρ, st, ds, r, hh, h⟩ := h
    have hdl : ds.length = p.ps.length := by rw [← r.length]; exact hl
    let X : Cx := (cxOf CX0 P w K mg base p.N p.d.qual p.d.scope (He.fAd K p.d.at_) cdv A outer s H E0).nox
    have gd : Gd X p.ci := ⟨rfl, rfl, rfl, S.nd, fun _ _ => .inl rfl, rfl⟩
    have wd : Wd X C.G (callN (bdsOf Pl C W fu) n) :=
      { gq := gq_deeper hg _
        room := hr.mono (by omega)
        fs := fun e he => by
          obtain ⟨q, q1, q2, q3, q4⟩ := T.fs e he
          obtain ⟨fd2, F2⟩ := T.df _ _ q1
          exact ⟨⟨He.fAd K q.d.at_, fd2, q.ps, n + 1, q2, F2.kp, hr, fg_all T n e.id q fd2 q1 F2, q3, fun s us ws X h1 h2 => q4 K _ fd2 F2 s us ws X h1 h2⟩⟩
        bl := T.bl
        cs := T.cs
        gcd := T.gcd
        tb := T.tb }
    have body := (sx_all (W := W) wd gd fu).2 p.d.body
    have h' : (runB p.ps.length p.N.length (cSs C (callN (bdsOf Pl C W fu) n) W fu p.ci p.d.body) ds st).wp fun d st' => ∀ ρ' H' v, Xt ρ H ρ' H' → Hr ⟨K, ξ⟩ ρ' H' st' → Rp ⟨K, ξ⟩ ρ' H' v d → Q v H' := by
      have e : callN (bdsOf Pl C W fu) (n + 1) id ds st = runB p.ps.length p.N.length (cSs C (callN (bdsOf Pl C W fu) n) W fu p.ci p.d.body) ds st := by
        show runB (bdsOf Pl C W fu id _).1 (bdsOf Pl C W fu id _).2.1 (bdsOf Pl C W fu id _).2.2 ds st = _
        unfold bdsOf
        rw [hp]
      rw [← e]
      exact h
    unfold runB at h'
    rw [if_pos hdl] at h'
    have er : Er (X.kx ξ) ρ H (L2.start p.N vs) (ds.map some ++ List.replicate (p.N.length - p.ps.length) none) := by
      rw [← hdl]
      exact er_start r
    refine body ξ ρ H (L2.start p.N vs) _ st { nx := fun _ H' => Q .non H', rt := Q } er hh (R.wp_mono (R.wp_bd.mp h') fun f s1 w1 => ?_)
    cases f with
    | nx e => exact fun ρ1 H1 σ1 x1 h1 e1 => w1 ρ1 H1 .non x1 h1 .non
    | rt d => exact fun ρ1 H1 v x1 h1 r1 => w1 ρ1 H1 v x1 h1 r1
    | bk e => exact w1.elim
    | ct e => exact w1.elim
end
/-- the end -/
theorem Fg.walkE {l : PySem.W.OpenLaw} {n k : Nat} {q : Program} {loose : List Str} {XP : (Str → Option Value) → Heap → Prop} {YP : World → Heap → Prop} {d : DefRec} {x : Str}
    (hn : l.most = some n) (hn2 : n ≤ sizeLine) (hdf : d.params.defaults = []) (hr : Room k callerA)
    (F : ∀ (w : World) (mg : Str → Option Value) (fa : Addr) (h : Heap), YP w h → h.Ns mainGlobals mg → mg d.name = some (.ref fa) →
      ∃ (K : PySem.W.Frag) (fd : FuncData) (sp : List V → Hp → VK → Prop), K.In h ∧ (∀ (s : Shared) (u : Value), BindsTo s fd ⟨[u], []⟩ [(x, u)]) ∧
        (∀ (H : Hp) (a : Addr) (ns : List Int), ns.length ≤ n → Only H → SqL K H a (ns.map V.int) → sp [.ref a] H (fun v _ => v = .bl true)) ∧
        ∀ base : Heap, K.In base → base.Ns mainGlobals mg → Fg l.prog w K mg base k fa fd [x] sp) :
    PySem.W.WalkO q loose XP YP l.row.toRowW d [] (fun f vs => PySem.call f vs) := by
  refine Att.attach_call hn hdf fun w s₀ s₁ mg mb fa o pm cd doc a vs ns G Y ho hd hcd hmg hobj hints hlen hg => ?_
  obtain ⟨K, fd, sp, KX, hb, hsp, hF⟩ := F w mg fa _ Y G.T.g hmg
  exact Fg.law KX G.T.g G.T.b G.T.builtins G.T.nolimit hg hobj hints (Nat.le_trans hlen hn2) hr hF hb (fun H hO hS => hsp H a ns hlen hO hS)
/-- the law's def upon a script -/
theorem sp_law {K : PySem.W.Frag} {F : Fn} {id : Nat} {H : Hp} {a : Addr} {ns : List Int} (hz : ns.length ≤ sizeLine) (hS : SqL K H a (ns.map V.int)) (h : ∃ s, F id [.ro (ns.map .int)] [] = .ok (.bl true) s) : spF K F id 1 [.ref a] H (fun v _ => v = .bl true) := by
  have r : Rps ⟨K, []⟩ [] H (ns.map V.int) (ns.map D.int) := by
    clear hz hS h
    induction ns with
    | nil => exact .nil
    | cons n ns ih => exact .cons (.int n) ih
  refine ⟨rfl, [], [], [], [.ro (ns.map .int)], .cons (.ro ?_ (by simpa using hz) r) .nil, ?_, ?_⟩
  · rcases hS with h | h
    · exact .inl ⟨⟨nofun, nofun⟩, h⟩
    · exact .inr h
  · exact ⟨rfl, .nil, nofun, nofun, fun n a o h => by cases h⟩
  · obtain ⟨s, e⟩ := h
    rw [e]
    intro ρ' H' v _ _ rv
    cases rv
    rfl
/-! ### a default at the end -/
theorem bindQ1 {p : Pd} {e : Fi} {i : Int} (hd : p.d.dfl = [.int i]) (hk : e.kw = []) (hn : e.np + 1 = p.ps.length) (ha : e.arr = (List.range e.np).map Src.at ++ [.int i])
    (h : ∀ (T : Addr) (kV doc pm : Value) (an : Option Addr) (cdv ct : Value) (us its : List Value), us.length = e.np → its.length = 1 →
      ∃ k, bindArgs (PySem.W.fnOf p.d.name p.d.qual p.d.params p.d.body p.d.scope (.ref T) kV doc pm an cdv ct) ⟨us, []⟩ = seqItems? (.ref T) >>= k ∧ k (some its.toArray) = pure (p.ps.zip (us ++ its.drop 0))) : BindQ p e := by
  intro K f fd Fd s us ws X h1 h2
  have e0 : p.d.dvs K = [V.int i] := by unfold He.DefD.dvs; rw [hd]; rfl
  obtain ⟨ds, r, b⟩ := FunD.binds1 (ps := p.ps) Fd e.np 0 (by rw [e0]; exact nofun) (by rw [e0]; exact hn) (fun T kV doc pm an cdv ct us its q1 q2 => h T kV doc pm an cdv ct us its q1 (by rw [q2, e0]; rfl))
  rw [e0] at r
  have hw : ws = [] := by
    rw [hk] at h2
    exact List.length_eq_zero_iff.mp h2
  subst hw
  cases r with
  | cons r1 r2 =>
    cases r2
    rename_i z
    obtain ⟨t, rfl⟩ : ∃ t, z = .int i t := r1
    refine ⟨us ++ [.int i t], ?_, ?_⟩
    · rw [hk]
      exact b s us X (by simp; omega)
    · rw [ha, List.append_nil]
      have pa : ∀ (m : Nat) (vs : List Value), m + vs.length = us.length → us.drop m = vs → Paired (fun (a : Src) (z : Value) => match a with | .at i => us[i]? = some z | .int i => ∃ t, z = .int i t) (((List.range' m vs.length).map Src.at) ++ [.int i]) (vs ++ [.int i t]) := by
        intro m vs
        induction vs generalizing m with
        | nil => intro _ _; exact .cons ⟨t, rfl⟩ .nil
        | cons v vs ih =>
          intro hl hd
          refine .cons ?_ (ih (m + 1) (by simp at hl ⊢; omega) ?_)
          · show us[m]? = some v
            have : (us.drop m)[0]? = some v := by rw [hd]; rfl
            simpa using this
          · have : (us.drop m).drop 1 = vs := by rw [hd]; rfl
            simpa [List.drop_drop] using this
      have := pa 0 us (by omega) rfl
      rw [List.range_eq_range', ← h1]
      exact this
/-- all given, though there is a default -/
theorem bindQD {p : Pd} {e : Fi} {i : Int} (hd : p.d.dfl = [.int i])
    (h : ∀ (T : Addr) (kV doc pm : Value) (an : Option Addr) (cdv ct : Value) (us ws its : List Value), us.length = e.np → ws.length = e.kw.length → its.length = 1 →
      ∃ zs k, bindArgs (PySem.W.fnOf p.d.name p.d.qual p.d.params p.d.body p.d.scope (.ref T) kV doc pm an cdv ct) ⟨us, e.kw.zip ws⟩ = seqItems? (.ref T) >>= k ∧ k (some its.toArray) = pure (p.ps.zip zs) ∧
        Paired (fun (a : Src) (z : Value) => match a with | .at i => (us ++ ws)[i]? = some z | .int i => ∃ t, z = .int i t) e.arr zs) : BindQ p e := by
  intro K f fd Fd s us ws X h1 h2
  have e0 : p.d.dvs K = [V.int i] := by unfold He.DefD.dvs; rw [hd]; rfl
  obtain ⟨oc, od, dV, kV, doc, pm, an, cdv, ct, osl, rfl, lk, hcd, hD, hK⟩ := Fd.ex
  rw [e0] at hD
  rcases hD with ⟨q, _⟩ | ⟨_, T, o, its, m, rfl, lT, oT, rT⟩
  · exact absurd q nofun
  · obtain ⟨zs, k, q1, q2, q3⟩ := h T kV doc pm an cdv ct us ws its h1 h2 rT.length.symm
    refine ⟨zs, BindsTo.of_looks fun M => ?_, q3⟩
    rw [q1]
    exact looks_items X lT oT (.of_pure q2)
/-! ### constants of any form, built-ins of another module -/
def vOf : Value → V
  | .none => .non
  | .bool b => .bl b
  | .int i _ => .int i
  | .str x _ => .str x
  | .ref a => .ref a
  | _ => .non
mutual
def cvB (K : PySem.W.Frag) (u : Value) : D → Bool
  | .non => match u with
    | .none => true
    | _ => false
  | .bl b => match u with
    | .bool c => decide (b = c)
    | _ => false
  | .int i => match u with
    | .int j _ => decide (i = j)
    | _ => false
  | .str x => match u with
    | .str y _ => decide (x = y)
    | _ => false
  | .tup ds => match u with
    | .ref a => match K.lookup a with
      | some ⟨.type c, _, .seq its _, _⟩ => decide (c = "tuple") && decide (its.size ≤ sizeLine) && cvBs K its.toList ds
      | _ => false
    | _ => false
  | .ro ds => match u with
    | .ref a => match K.lookup a with
      | some ⟨.type c, none, .seq its _, _⟩ => decide (c = "list") && decide (its.size ≤ sizeLine) && cvBs K its.toList ds
      | _ => false
    | _ => false
  | _ => false
def cvBs (K : PySem.W.Frag) (us : List Value) : List D → Bool
  | [] => us.isEmpty
  | d :: ds => match us with
    | u :: us => cvB K u d && cvBs K us ds
    | [] => false
end
mutual
theorem cvB_ok {K : PySem.W.Frag} : ∀ (d : D) (u : Value), cvB K u d = true → RelV (vOf u) u ∧ ∀ ξ ρ H, Rp ⟨K, ξ⟩ ρ H (vOf u) d
  | .non, u, h => by
    unfold cvB at h
    split at h
    · exact ⟨rfl, fun _ _ _ => .non⟩
    · cases h
  | .bl b, u, h => by
    unfold cvB at h
    split at h
    · rw [of_decide_eq_true h]
      exact ⟨rfl, fun _ _ _ => .bl _⟩
    · cases h
  | .int i, u, h => by
    unfold cvB at h
    split at h
    · rw [of_decide_eq_true h]
      exact ⟨⟨_, rfl⟩, fun _ _ _ => .int _⟩
    · cases h
  | .str x, u, h => by
    unfold cvB at h
    split at h
    · rw [of_decide_eq_true h]
      exact ⟨⟨_, rfl⟩, fun _ _ _ => .str _⟩
    · cases h
  | .tup ds, u, h => by
    unfold cvB at h
    split at h
    · rename_i a
      split at h
      · rename_i c dd its n sl e
        rw [Bool.and_eq_true, Bool.and_eq_true, decide_eq_true_eq, decide_eq_true_eq] at h
        obtain ⟨⟨rfl, hz⟩, h⟩ := h
        obtain ⟨xs, r, q⟩ := cvBs_ok ds _ h
        have hl : xs.length ≤ sizeLine := by rw [r.length, Array.length_toList]; exact hz
        exact ⟨rfl, fun ξ ρ H => .tup (.inr ⟨_, its, n, e, rfl, rfl, hz, r⟩) hl (q ξ ρ H)⟩
      · cases h
    · cases h
  | .ro ds, u, h => by
    unfold cvB at h
    split at h
    · rename_i a
      split at h
      · rename_i c its n sl e
        rw [Bool.and_eq_true, Bool.and_eq_true, decide_eq_true_eq, decide_eq_true_eq] at h
        obtain ⟨⟨rfl, hz⟩, h⟩ := h
        obtain ⟨xs, r, q⟩ := cvBs_ok ds _ h
        have hl : xs.length ≤ sizeLine := by rw [r.length, Array.length_toList]; exact hz
        exact ⟨rfl, fun ξ ρ H => .ro (.inr ⟨_, its, n, e, rfl, rfl, rfl, hz, r⟩) hl (q ξ ρ H)⟩
      · cases h
    · cases h
  | .lst _, u, h => by unfold cvB at h; cases h
  | .dct _, u, h => by unfold cvB at h; cases h
  | .ref _, u, h => by unfold cvB at h; cases h
  | .fn _, u, h => by unfold cvB at h; cases h
  | .err _ _, u, h => by unfold cvB at h; cases h
theorem cvBs_ok {K : PySem.W.Frag} : ∀ (ds : List D) (us : List Value), cvBs K us ds = true → ∃ xs, Vals xs us ∧ ∀ ξ ρ H, Rps ⟨K, ξ⟩ ρ H xs ds
  | [], us, h => by
    unfold cvBs at h
    cases us with
    | nil => exact ⟨[], .nil, fun _ _ _ => .nil⟩
    | cons => cases h
  | d :: ds, us, h => by
    unfold cvBs at h
    cases us with
    | nil => cases h
    | cons u us =>
      have h' : (cvB K u d && cvBs K us ds) = true := h
      rw [Bool.and_eq_true] at h'
      obtain ⟨q1, q2⟩ := cvB_ok d u h'.1
      obtain ⟨xs, q3, q4⟩ := cvBs_ok ds us h'.2
      exact ⟨_, .cons q1 q3, fun ξ ρ H => .cons (q2 ξ ρ H) (q4 ξ ρ H)⟩
end
def cstB (K : PySem.W.Frag) (z : Str × D) : Bool := match PySem.W.nsIn K mainGlobals z.1 with
  | some (some u) => cvB K u z.2
  | _ => false
theorem cstB_ok {K : PySem.W.Frag} {h : Heap} {mg : Str → Option Value} (X : K.In h) (G : h.Ns mainGlobals mg) {z : Str × D} (c : cstB K z = true) : ∃ u v, mg z.1 = some u ∧ RelV v u ∧ ∀ ξ ρ H, Rp ⟨K, ξ⟩ ρ H v z.2 := by
  unfold cstB at c
  split at c
  · rename_i u e
    obtain ⟨q1, q2⟩ := cvB_ok _ _ c
    exact ⟨u, vOf u, PySem.W.mg_of X G e, q1, q2⟩
  · cases c
def bltB (K : PySem.W.Frag) (x : Str) (id : String) : Bool := match PySem.W.nsIn K mainGlobals x with
  | some (some (.builtin j)) => decide (j = id)
  | _ => false
theorem bltB_ok {K : PySem.W.Frag} {h : Heap} {mg : Str → Option Value} (X : K.In h) (G : h.Ns mainGlobals mg) {x : Str} {id : String} (c : bltB K x id = true) : mg x = some (.builtin id) := by
  unfold bltB at c
  split at c
  · rename_i j e
    rw [← of_decide_eq_true c]
    exact PySem.W.mg_of X G e
  · cases c
/-- a table's keys with their hashes, its values -/
def tabO (K : PySem.W.Frag) (x : Str) : Option (List (Option (Str × Int))) := match PySem.W.nsIn K mainGlobals x with
  | some (some (.ref a)) => He.dicW K a
  | _ => none
def tabV (K : PySem.W.Frag) (t : Str × List (Str × D)) : Bool := match PySem.W.nsIn K mainGlobals t.1 with
  | some (some (.ref a)) => t.2.all fun q => match PySem.W.nsIn K a q.1 with
    | some (some u) => cvB K u q.2
    | _ => false
  | _ => false
theorem lk_of_mem : ∀ {l : List (Str × D)} {x : Str}, l.lookup x = none → ∀ p ∈ l, p.1 ≠ x
  | [], _, _, _, h => by cases h
  | (y, e) :: r, x, h, p, hp => by
    rw [List.lookup_cons] at h
    by_cases q : x = y
    · subst q
      rw [beq_self_eq_true] at h
      cases h
    · have q' : (x == y) = false := by
        cases z : (x == y) with
        | false => rfl
        | true => exact absurd (eq_of_beq z) q
      rw [q'] at h
      rcases List.mem_cons.mp hp with rfl | hp
      · exact fun z => q z.symm
      · exact lk_of_mem h p hp
theorem keys_none {K : PySem.W.Frag} {P : Params} {a : Addr} {es : Array DictEntry} {n : Nat} {ks : List Str} {x : Str} (hl : K.lookup a = some ⟨.type "dict", none, .dict es n, #[]⟩) (hk : es.toList.map He.keyOf = He.keysIn P ks) (hx : ∀ k ∈ ks, k ≠ x) : PySem.W.nsIn K a x = some none := by
  have no : ∀ (l : List DictEntry) (ks : List Str), l.map He.keyOf = He.keysIn P ks → (∀ k ∈ ks, k ≠ x) → l.find? (·.key.isStr x) = none ∧ l.any (·.refKey) = false := by
    intro l
    induction l with
    | nil => intro _ _ _; exact ⟨rfl, rfl⟩
    | cons e r ih =>
      intro ks h hx
      cases ks with
      | nil => cases h
      | cons k ks =>
        have h1 : He.keyOf e :: r.map He.keyOf = some (k, PyData.keyHash P k) :: He.keysIn P ks := h
        injection h1 with h2 h3
        obtain ⟨q1, q2⟩ := ih ks h3 fun k hk => hx k (.tail _ hk)
        unfold He.keyOf at h2
        split at h2
        · rename_i y t e1
          have h4 := (Prod.mk.inj (Option.some.inj h2)).1
          have hn := hx k (.head _)
          constructor
          · rw [List.find?_cons, e1]
            have : (Value.str y t).isStr x = false := by
              simp only [Value.isStr]
              exact beq_eq_false_iff_ne.mpr fun z => hn (by rw [← h4]; exact z)
            rw [this]
            exact q1
          · rw [List.any_cons, q2]
            have : e.refKey = false := by unfold DictEntry.refKey; rw [e1]
            rw [this]
            rfl
        · cases h2
  obtain ⟨q1, q2⟩ := no _ _ hk hx
  unfold PySem.W.nsIn
  rw [hl]
  dsimp only
  rw [q1]
  dsimp only
  rw [q2]
  rfl
theorem tab_ok {K : PySem.W.Frag} {w : World} {h : Heap} {mg : Str → Option Value} (X : K.In h) (G : h.Ns mainGlobals mg) {t : Str × List (Str × D)} (c1 : tabO K t.1 = some (He.keysIn w.params (t.2.map (·.1)))) (c2 : tabV K t = true) : ∃ a, mg t.1 = some (.ref a) ∧ TbK K w a t.2 := by
  unfold tabO at c1
  unfold tabV at c2
  split at c1
  · rename_i a e
    rw [e] at c2
    dsimp only at c2
    refine ⟨a, PySem.W.mg_of X G e, ?_⟩
    obtain ⟨es, n, hl, hk, lo⟩ := He.dicW_ok c1
    refine ⟨es, n, hl, hk, lo, fun x => ⟨fun d hd => ?_, fun hd => ?_⟩⟩
    · have hm := mem_of_lk hd
      have q := List.all_eq_true.mp c2 _ hm
      dsimp only at q
      split at q
      · rename_i u e2
        obtain ⟨q1, q2⟩ := cvB_ok _ _ q
        exact ⟨u, _, e2, q1, q2⟩
      · cases q
    · refine keys_none (P := w.params) (ks := t.2.map (·.1)) hl ?_ fun k hk => ?_
      · unfold He.dicW at c1
        rw [hl] at c1
        dsimp only at c1
        split at c1
        · exact Option.some.inj c1
        · cases c1
      · obtain ⟨p, hp, rfl⟩ := List.mem_map.mp hk
        exact lk_of_mem hd p hp
  · cases c1
/-- all that a law wants of its names beside the defs -/
def exB (G : Gi) (K : PySem.W.Frag) : Bool := (G.cs.all fun z => cstB K z) && ((!G.gcd || bltB K "gcd" "math.gcd") && G.ts.all (tabV K))
abbrev ObX : Type := He.AlD × Bool × List (Option (List (Option (Str × Int))))
def obK (fa : List He.Fa) (fn : List He.DefD) (G : Gi) (K : PySem.W.Frag) : ObX := (He.obsD fa fn K, exB G K, G.ts.map fun t => tabO K t.1)
def vlK (fn : List He.DefD) (G : Gi) (w : World) : ObX := (He.valD fn, true, G.ts.map fun t => some (He.keysIn w.params (t.2.map (·.1))))
/-- the head's Hook with these -/
def hookX (n : Nat) (fa : List He.Fa) (fn : List He.DefD) (G : Gi) : PySem.W.Hook where
  α := ObX
  obs := fun s => obK fa fn G (He.frG s.heap.get? (He.asD s.heap.get? n))
  val := fun w => vlK fn G w
  says := fun w h => ∃ K : PySem.W.Frag, K.In h ∧ He.SaysD fa fn K ∧ exB G K = true ∧ ∀ t ∈ G.ts, tabO K t.1 = some (He.keysIn w.params (t.2.map (·.1)))
  of := fun _ _ e => ⟨_, He.frG_in, congrArg Prod.fst e, congrArg (fun z : ObX => z.2.1) e, fun t ht => by
    have q := congrArg (fun z : ObX => z.2.2) e
    exact List.map_inj_left.mp q t ht⟩
  keeps := fun _ _ _ ⟨K, hK, c⟩ k => ⟨K, PySem.W.Frag.In.keeps hK k, c⟩
def obsX (n : Nat) (fa : List He.Fa) (fn : List He.DefD) (G : Gi) (g : Addr → Option Obj) : ObX := obK fa fn G (He.frG g (He.asD g n))
theorem obsX_eq {n : Nat} {fa : List He.Fa} {fn : List He.DefD} {G : Gi} {g : Addr → Option Obj} {s : Shared} (h : ∀ a, g a = s.heap.get? a) : obsX n fa fn G g = (hookX n fa fn G).obs s := by
  have e : g = s.heap.get? := funext h
  rw [e] <;> rfl
end Rf
set_option maxHeartbeats 4000000
namespace Rf
open PySem PySem.Spec L2
open PyProof.Rows hiding St
/-! ## rules to read a meaning by simp: side conditions are left to omega -/
section
variable {α β : Type} {env : Ev} {st s : Sto}
@[simp] theorem wp_bd' {r : R α} {f : α → Sto → R β} {Q : β → Sto → Prop} : (r.bd f).wp Q = r.wp (fun a s => (f a s).wp Q) := propext R.wp_bd
@[simp] theorem wp_ok' {a : α} {Q : α → Sto → Prop} : (R.ok a s).wp Q = Q a s := _root_.id rfl
@[simp] theorem wp_bad' {Q : α → Sto → Prop} : (R.bad : R α).wp Q = False := _root_.id rfl
@[simp] theorem x_cst (d : D) : mCst d env st = .ok d st := _root_.id rfl
@[simp] theorem x_var0 (d : D) (e : Ev) : mVar 0 (some d :: e) st = .ok d st := _root_.id rfl
@[simp] theorem x_varS (i : Nat) (x : Option D) (e : Ev) : mVar (i + 1) (x :: e) st = mVar i e st := _root_.id rfl
@[simp] theorem x_op2 (f : Op2) (a b : ME) : mOp2 f a b env st = (a env st).bd fun x s => (b env s).bd fun y s' => f x y s' := _root_.id rfl
@[simp] theorem x_op1 (f : Op1) (a : ME) : mOp1 f a env st = (a env st).bd fun x s => f x s := _root_.id rfl
@[simp] theorem x_opN (f : List D → Sto → R D) (a : MA) : mOpN f a env st = (a env st).bd fun xs s => f xs s := _root_.id rfl
@[simp] theorem x_nil : mNil env st = .ok [] st := _root_.id rfl
@[simp] theorem x_cons (a : ME) (r : MA) : mCons a r env st = (a env st).bd fun x s => (r env s).bd fun xs s' => .ok (x :: xs) s' := _root_.id rfl
@[simp] theorem x_if (c : MT) (a b : ME) : mIf c a b env st = (c env st).bd fun k s => if k then a env s else b env s := _root_.id rfl
@[simp] theorem x_notT (a : MT) : mNotT a env st = (a env st).bd fun k s => .ok (!k) s := _root_.id rfl
@[simp] theorem x_andT (a b : MT) : mAndT a b env st = (a env st).bd fun k s => if k then b env s else .ok false s := _root_.id rfl
@[simp] theorem x_orT (a b : MT) : mOrT a b env st = (a env st).bd fun k s => if k then .ok true s else b env s := _root_.id rfl
@[simp] theorem x_andV (a b : ME) : mAndV a b env st = (a env st).bd fun x s => match x with
  | .bl true => b env s
  | .bl false => .ok (.bl false) s
  | _ => .bad := _root_.id rfl
@[simp] theorem x_orV (a b : ME) : mOrV a b env st = (a env st).bd fun x s => match x with
  | .bl false => b env s
  | .bl true => .ok (.bl true) s
  | _ => .bad := _root_.id rfl
@[simp] theorem x_notV (a : ME) : mNotV a env st = (a env st).bd fun x s => match x with
  | .bl k => .ok (.bl (!k)) s
  | _ => .bad := _root_.id rfl
@[simp] theorem x_test (a : ME) : mTest a env st = (a env st).bd fun x s => match truD x s with
  | some k => .ok k s
  | none => .bad := _root_.id rfl
@[simp] theorem t_bl (k : Bool) : truD (.bl k) s = some k := _root_.id rfl
@[simp] theorem t_int (i : Int) : truD (.int i) s = some (i != 0) := _root_.id rfl
@[simp] theorem t_non : truD .non s = some false := _root_.id rfl
@[simp] theorem t_lst (ds : List D) : truD (.lst ds) s = some (!ds.isEmpty) := _root_.id rfl
@[simp] theorem t_tup (ds : List D) : truD (.tup ds) s = some (!ds.isEmpty) := _root_.id rfl
@[simp] theorem x_call (F : Fn) (id : Nat) (arr : List Src) (ma : MA) : mCall F id arr ma env st = (ma env st).bd fun ds s => F id (arr.map (Src.get ds)) s := _root_.id rfl
@[simp] theorem x_callK (F : Fn) (id : Nat) (arr : List Src) (ma mk : MA) : mCallK F id arr ma mk env st = (ma env st).bd fun ds s => (mk env s).bd fun ks s' => F id (arr.map (Src.get (ds ++ ks))) s' := _root_.id rfl
@[simp] theorem g_at0 (d : D) (ds : List D) : Src.get (d :: ds) (.at 0) = d := _root_.id rfl
@[simp] theorem g_atS (d : D) (ds : List D) (i : Nat) : Src.get (d :: ds) (.at (i + 1)) = Src.get ds (.at i) := _root_.id rfl
@[simp] theorem g_int (ds : List D) (i : Int) : Src.get ds (.int i) = .int i := _root_.id rfl
@[simp] theorem x_pass : mPass env st = .ok (.nx env) st := _root_.id rfl
@[simp] theorem x_brk : mBrk env st = .ok (.bk env) st := _root_.id rfl
@[simp] theorem x_cnt : mCnt env st = .ok (.ct env) st := _root_.id rfl
@[simp] theorem x_bad : mBad env st = .bad := _root_.id rfl
@[simp] theorem x_exp (a : ME) : mExp a env st = (a env st).bd fun _ s => .ok (.nx env) s := _root_.id rfl
@[simp] theorem x_ret (a : ME) : mRet a env st = (a env st).bd fun d s => .ok (.rt d) s := _root_.id rfl
@[simp] theorem x_retN : mRetN env st = .ok (.rt .non) st := _root_.id rfl
@[simp] theorem x_asg (g : MG) (a : ME) : mAsg g a env st = (a env st).bd fun d s => (g d env s).bd fun e s' => .ok (.nx e) s' := _root_.id rfl
@[simp] theorem x_seq (a b : MS) : mSeq a b env st = (a env st).bd fun f s => match f with
  | .nx e => b e s
  | f => .ok f s := _root_.id rfl
@[simp] theorem x_ifS (c : MT) (a b : MS) : mIfS c a b env st = (c env st).bd fun k s => if k then a env s else b env s := _root_.id rfl
@[simp] theorem x_par (i j : Nat) (ma : MA) : mPar i j ma env st = (ma env st).bd fun ds s => match ds with
  | [x, y] => .ok (.nx ((env.set i (some x)).set j (some y))) s
  | _ => .bad := _root_.id rfl
@[simp] theorem x_par3 (i j l : Nat) (ma : MA) : mPar3 i j l ma env st = (ma env st).bd fun ds s => match ds with
  | [x, y, z] => .ok (.nx (((env.set i (some x)).set j (some y)).set l (some z))) s
  | _ => .bad := _root_.id rfl
@[simp] theorem x_gNm (i : Nat) (d : D) : gNm i d env st = .ok (env.set i (some d)) st := _root_.id rfl
@[simp] theorem x_gNil : gNil [] env st = .ok env st := _root_.id rfl
@[simp] theorem x_gCons (m : MG) (r : MGs) (d : D) (ds : List D) : gCons m r (d :: ds) env st = (m d env st).bd fun e s => r ds e s := _root_.id rfl
@[simp] theorem x_gTp (n : Nat) (ms : MGs) (ds : List D) (h : ds.length = n) : gTp n ms (.tup ds) env st = ms ds env st := if_pos h
@[simp] theorem x_gSub (o i : ME) (d : D) : gSub o i d env st = (o env st).bd fun x s => (i env s).bd fun y s2 => match setIx x y d s2 with
  | some s3 => .ok env s3
  | none => .bad := _root_.id rfl
@[simp] theorem x_for (g : MG) (it : MI) (b : MS) : mFor g it b env st = (it env st).bd fun p s => forL g b p.2 p.1 p.1 env s := _root_.id rfl
@[simp] theorem x_whl (n : Nat) (c : MT) (b : MS) : mWhl n c b env st = whl c b n env st := _root_.id rfl
@[simp] theorem x_it (a : ME) : mIt a env st = (a env st).bd fun x s => match itemsD x s with
  | some p => .ok p s
  | none => .bad := _root_.id rfl
@[simp] theorem i_lst (ds : List D) : itemsD (.lst ds) s = some (ds, none) := _root_.id rfl
@[simp] theorem i_tup (ds : List D) : itemsD (.tup ds) s = some (ds, none) := _root_.id rfl
@[simp] theorem i_ro (ds : List D) : itemsD (.ro ds) s = some (ds, none) := _root_.id rfl
@[simp] theorem x_rg (ma : MA) : mRg ma env st = (ma env st).bd fun xs s => match xs with
  | [.int b] => if rgB 0 b then .ok (rgI 0 b, none) s else .bad
  | [.int a, .int b] => if rgB a b then .ok (rgI a b, none) s else .bad
  | _ => .bad := _root_.id rfl
@[simp] theorem rgB_yes (a b : Int) (h1 : -(2 ^ 62) ≤ a) (h2 : b < 2 ^ 62) (h3 : a ≤ 2 ^ 61) (h4 : -(2 ^ 62) ≤ b) (h5 : b - a ≤ 16777216) : rgB a b = true := by
  unfold rgB
  simp only [Bool.and_eq_true, decide_eq_true_eq]
  omega
theorem mulB_of (i j : Int) (h1 : -(10 ^ 300) ≤ i) (h2 : i ≤ 10 ^ 300) (h3 : -(10 ^ 300) ≤ j) (h4 : j ≤ 10 ^ 300) : mulB i j = true := by
  have lg : ∀ k : Int, -(10 ^ 300) ≤ k → k ≤ 10 ^ 300 → k.natAbs.log2 ≤ 1200 := fun k a b => by
    have h : k.natAbs < 2 ^ 1200 := by
      have h0 : k.natAbs ≤ 10 ^ 300 := by omega
      exact Nat.lt_of_le_of_lt h0 (by decide +kernel)
    by_cases e : k.natAbs = 0
    · rw [e]; decide
    · exact Nat.le_of_lt ((Nat.log2_lt e).mpr h)
  unfold mulB
  have a := lg i h1 h2
  have b := lg j h3 h4
  exact decide_eq_true (by omega)
@[simp] theorem o_mul (m : Bool) (i j : Int) (h1 : -(10 ^ 300) ≤ i) (h2 : i ≤ 10 ^ 300) (h3 : -(10 ^ 300) ≤ j) (h4 : j ≤ 10 ^ 300) : opMul m (.int i) (.int j) s = .ok (.int (i * j)) s := if_pos (mulB_of i j h1 h2 h3 h4)
@[simp] theorem o_add (m : Bool) (i j : Int) : opAdd m (.int i) (.int j) s = .ok (.int (i + j)) s := _root_.id rfl
@[simp] theorem o_sub (i j : Int) : opSub (.int i) (.int j) s = .ok (.int (i - j)) s := _root_.id rfl
@[simp] theorem o_cmp (g : Int → Int → Bool) (i j : Int) : opCmp g (.int i) (.int j) s = .ok (.bl (g i j)) s := _root_.id rfl
@[simp] theorem o_neg (i : Int) : opNeg (.int i) s = .ok (.int (-i)) s := _root_.id rfl
theorem divB_of (i j : Int) (h : 0 < j) (h2 : j ≤ 10 ^ 300) : divB i j = true := by
  unfold divB
  have h3 : j.natAbs.log2 < 9000 := by
    have h : j.natAbs < 2 ^ 1200 := by
      have h0 : j.natAbs ≤ 10 ^ 300 := by omega
      exact Nat.lt_of_le_of_lt h0 (by decide +kernel)
    exact Nat.lt_trans ((Nat.log2_lt (by omega)).mpr h) (by decide)
  simp only [Bool.and_eq_true, decide_eq_true_eq]
  exact ⟨by omega, h3⟩
theorem fdiv_pos {i j : Int} (h : 0 < j) : i.fdiv j = i / j := Int.fdiv_eq_ediv_of_nonneg i (Int.le_of_lt h)
theorem fmod_pos {i j : Int} (h : 0 < j) : i.fmod j = i % j := Int.fmod_eq_emod_of_nonneg i (Int.le_of_lt h)
@[simp] theorem o_div (i j : Int) (h : 0 < j) (h2 : j ≤ 10 ^ 300) : opDiv (.int i) (.int j) s = .ok (.int (i / j)) s := by
  show (if divB i j = true then R.ok (D.int (i.fdiv j)) s else .bad) = _
  rw [if_pos (divB_of i j h h2), fdiv_pos h]
@[simp] theorem o_mod (i j : Int) (h : 0 < j) : opMod (.int i) (.int j) s = .ok (.int (i % j)) s := by
  show (if modB i j = true then R.ok (D.int (i.fmod j)) s else .bad) = _
  rw [if_pos (show modB i j = true from decide_eq_true (by omega)), fmod_pos h]
@[simp] theorem o_dm (i j : Int) (h : 0 < j) (h2 : j ≤ 10 ^ 300) : opDm [.int i, .int j] s = .ok (.tup [.int (i / j), .int (i % j)]) s := by
  show (if divB i j = true then R.ok (D.tup [.int (i.fdiv j), .int (i.fmod j)]) s else .bad) = _
  rw [if_pos (divB_of i j h h2), fdiv_pos h, fmod_pos h]
@[simp] theorem o_pow (i j : Int) (h1 : 0 ≤ j) (h2 : j ≤ 1000000) (h3 : -18446744073709551616 < i) (h4 : i < 18446744073709551616) : opPow (.int i) (.int j) s = .ok (.int (i ^ j.toNat)) s := by
  show (if powB i j = true then R.ok (D.int (i ^ j.toNat)) s else .bad) = _
  rw [if_pos]
  unfold powB
  simp only [Bool.and_eq_true, decide_eq_true_eq]
  omega
@[simp] theorem o_shl (i j : Int) (h1 : 0 ≤ j) (h2 : j ≤ 1000000) (h3 : -18446744073709551616 < i) (h4 : i < 18446744073709551616) : opShl (.int i) (.int j) s = .ok (.int (i * 2 ^ j.toNat)) s := by
  show (if powB i j = true then R.ok (D.int (i * 2 ^ j.toNat)) s else .bad) = _
  rw [if_pos]
  unfold powB
  simp only [Bool.and_eq_true, decide_eq_true_eq]
  omega
@[simp] theorem o_tup (ds : List D) (h : ds.length ≤ 1000) : opTup ds s = .ok (.tup ds) s := if_pos h
@[simp] theorem o_lstF (ds : List D) (h : ds.length ≤ 1000) : opLst false ds s = .ok (.lst ds) s := if_pos h
@[simp] theorem o_lstT (ds : List D) (h : ds.length ≤ 1000) : opLst true ds s = .ok (.ref s.length) (s ++ [.lst ds]) := if_pos h
@[simp] theorem n_f (ds : List D) : newL false ds s = .ok (.lst ds) s := _root_.id rfl
@[simp] theorem n_t (ds : List D) : newL true ds s = .ok (.ref s.length) (s ++ [.lst ds]) := _root_.id rfl
@[simp] theorem o_int (i : Int) : opInt [.int i] s = .ok (.int i) s := _root_.id rfl
@[simp] theorem o_intB (k : Bool) : opInt [.bl k] s = .ok (.int (if k then 1 else 0)) s := _root_.id rfl
@[simp] theorem o_abs (i : Int) : opAbs [.int i] s = .ok (.int (if i < 0 then -i else i)) s := _root_.id rfl
@[simp] theorem o_max (i j : Int) : opMax [.int i, .int j] s = .ok (.int (if j > i then j else i)) s := _root_.id rfl
@[simp] theorem o_min (i j : Int) : opMin [.int i, .int j] s = .ok (.int (if j < i then j else i)) s := _root_.id rfl
@[simp] theorem o_un1 (f : Op1) (x : D) : un1 f [x] s = f x s := _root_.id rfl
@[simp] theorem o_lenT (ds : List D) : opLen (.tup ds) s = .ok (.int ds.length) s := _root_.id rfl
@[simp] theorem o_lenL (ds : List D) : opLen (.lst ds) s = .ok (.int ds.length) s := _root_.id rfl
@[simp] theorem o_lenR (ds : List D) : opLen (.ro ds) s = .ok (.int ds.length) s := _root_.id rfl
theorem atI_nat {ds : List D} {i : Int} {d : D} (h0 : 0 ≤ i) (h : ds[i.toNat]? = some d) : atI ds i = some d := by
  unfold atI ixN
  have hl := (List.getElem?_eq_some_iff.mp h).1
  rw [if_pos h0, if_pos (by omega)]
  exact h
@[simp] theorem o_ixT (ds : List D) (i : Int) (h0 : 0 ≤ i) (h : i < ds.length) : opIx (.tup ds) (.int i) s = .ok (ds.getD i.toNat .non) s := by
  have e : atI ds i = some (ds.getD i.toNat .non) := atI_nat h0 (by rw [List.getD_eq_getElem?_getD, List.getElem?_eq_getElem (by omega)]; rfl)
  show (match atI ds i with | some d => R.ok d s | none => .bad) = _
  rw [e]
theorem o_ixR (ds : List D) (i : Int) (h0 : 0 ≤ i) (h : i < ds.length) : opIx (.ro ds) (.int i) s = .ok (ds.getD i.toNat .non) s := by
  have e : atI ds i = some (ds.getD i.toNat .non) := atI_nat h0 (by rw [List.getD_eq_getElem?_getD, List.getElem?_eq_getElem (by omega)]; rfl)
  show (match atI ds i with | some d => R.ok d s | none => .bad) = _
  rw [e]
theorem o_ixL (ds : List D) (i : Int) (h0 : 0 ≤ i) (h : i < ds.length) : opIx (.lst ds) (.int i) s = .ok (ds.getD i.toNat .non) s := by
  have e : atI ds i = some (ds.getD i.toNat .non) := atI_nat h0 (by rw [List.getD_eq_getElem?_getD, List.getElem?_eq_getElem (by omega)]; rfl)
  show (match atI ds i with | some d => R.ok d s | none => .bad) = _
  rw [e]
/-- a list of the store, read -/
theorem o_ixS {n : Nat} {ds : List D} {i : Int} (h : s[n]? = some (.lst ds)) (h0 : 0 ≤ i) (h1 : i < ds.length) : opIx (.ref n) (.int i) s = .ok (ds.getD i.toNat .non) s := by
  have e : atI ds i = some (ds.getD i.toNat .non) := atI_nat h0 (by rw [List.getD_eq_getElem?_getD, List.getElem?_eq_getElem (by omega)]; rfl)
  show (match (match s[n]? with | some (.lst ds) => some ds | _ => none) with | some ds => (match atI ds i with | some d => R.ok d s | none => .bad) | none => .bad) = _
  rw [h]
  show (match atI ds i with | some d => R.ok d s | none => .bad) = _
  rw [e]
theorem setIx_S {n : Nat} {ds : List D} {i : Int} {d : D} (h : s[n]? = some (.lst ds)) (h0 : 0 ≤ i) (hd : i < ds.length) : setIx (.ref n) (.int i) d s = some (s.set n (.lst (ds.set i.toNat d))) := by
  have e : ixN ds.length i = some i.toNat := by
    unfold ixN
    rw [if_pos h0, if_pos hd]
  show (match s[n]? with | some (.lst ds) => (match ixN ds.length i with | some j => some (s.set n (.lst (ds.set j d))) | none => none) | _ => none) = _
  rw [h]
  show (match ixN ds.length i with | some j => some (s.set n (.lst (ds.set j d))) | none => none) = _
  rw [e]
@[simp] theorem o_isi (t : Ty) (i : Int) : opIsi t (.int i) s = .ok (.bl (Ty.int.sub t)) s := _root_.id rfl
@[simp] theorem o_isiB (t : Ty) (i : Bool) : opIsi t (.bl i) s = .ok (.bl (Ty.bool.sub t)) s := _root_.id rfl
@[simp] theorem o_isiS (t : Ty) (i : Str) : opIsi t (.str i) s = .ok (.bl (Ty.str.sub t)) s := _root_.id rfl
@[simp] theorem o_isiT (t : Ty) (i : List D) : opIsi t (.tup i) s = .ok (.bl (Ty.tuple.sub t)) s := _root_.id rfl
@[simp] theorem o_isiL (t : Ty) (i : List D) : opIsi t (.lst i) s = .ok (.bl (Ty.list.sub t)) s := _root_.id rfl
@[simp] theorem o_isiN (t : Ty) : opIsi t .non s = .ok (.bl (Ty.none.sub t)) s := _root_.id rfl
@[simp] theorem x_chn (g g' : Int → Int → Bool) (a b c : ME) : mChn g g' a b c env st = (a env st).bd fun x s => (b env s).bd fun y s1 => match x, y with
  | .int i, .int j => if g i j then (c env s1).bd fun z s2 => match z with
      | .int k => .ok (.bl (g' j k)) s2
      | _ => .bad
    else .ok (.bl false) s1
  | _, _ => .bad := _root_.id rfl
theorem wp_true {r : R D} (h : r.wp fun d _ => d = .bl true) : ∃ s, r = .ok (.bl true) s := by
  cases r with
  | ok a s => exact ⟨s, by rw [show a = .bl true from h]⟩
  | ex => exact h.elim
  | bad => exact h.elim
/-- a for-loop over a fixed list: what holds before each turn -/
theorem for_wp {g : MG} {b : MS} {all : List D} (I : List D → Ev → Sto → Prop) {Q : Fl → Sto → Prop}
    (hs : ∀ d r env st, I (d :: r) env st → (g d env st).wp fun e s => (b e s).wp fun f s2 => match f with
      | .nx e2 => I r e2 s2
      | .ct e2 => I r e2 s2
      | .bk e2 => Q (.nx e2) s2
      | .rt d => Q (.rt d) s2)
    (he : ∀ env st, I [] env st → Q (.nx env) st) : ∀ (l : List D) (env : Ev) (st : Sto), I l env st → (forL g b none all l env st).wp Q
  | [], env, st, h => he env st h
  | d :: r, env, st, h => by
    show ((g d env st).bd fun e s => (b e s).bd fun f s2 => match f with
      | .nx e => forL g b none all r e s2
      | .ct e => forL g b none all r e s2
      | .bk e => .ok (.nx e) s2
      | .rt d => .ok (.rt d) s2).wp Q
    rw [wp_bd']
    refine R.wp_mono (hs d r env st h) fun e s h1 => ?_
    rw [wp_bd']
    refine R.wp_mono h1 fun f s2 h2 => ?_
    cases f with
    | nx e2 => exact for_wp I hs he r e2 s2 h2
    | ct e2 => exact for_wp I hs he r e2 s2 h2
    | bk e2 => exact h2
    | rt d => exact h2
end
end Rf
set_option maxHeartbeats 4000000
namespace Rf
open PySem PySem.Spec L2
open PyProof.Rows hiding St
/-! ## the urn that the laws draw from -/
/-- the urn at u has pulled at most k0 numbers -/
structure Urn (s : Sto) (u : Nat) (k0 : Int) : Prop where
  ex : ∃ a seed k : Int, s[u]? = some (.lst [.int a, .int seed, .int k]) ∧ 0 ≤ a ∧ 0 ≤ seed ∧ seed < 4294967296 ∧ 0 ≤ k ∧ k ≤ k0
theorem set_at {s : Sto} {u : Nat} {x : O} (h : s[u]? = some x) (y : O) : (s.set u y)[u]? = some y := by
  rw [List.getElem?_set_self (List.getElem?_eq_some_iff.mp h).1]
/-- only the urn has changed -/
def Kp (u : Nat) (s s' : Sto) : Prop := s'.length = s.length ∧ ∀ i, i ≠ u → s'[i]? = s[i]?
theorem Kp.refl (u : Nat) (s : Sto) : Kp u s s := ⟨rfl, fun _ _ => rfl⟩
theorem Kp.set (u : Nat) (s : Sto) (y : O) : Kp u s (s.set u y) := ⟨List.length_set, fun i h => List.getElem?_set_ne (Ne.symm h)⟩
theorem Kp.trans {u : Nat} {s s1 s2 : Sto} (h : Kp u s s1) (h' : Kp u s1 s2) : Kp u s s2 := ⟨h'.1.trans h.1, fun i n => (h'.2 i n).trans (h.2 i n)⟩
def mPull (c1 c2 c3 c4 c5 c6 c7 c8 : Int) : MS := (mSeq (mIfS (mTest (mOp2 (opCmp fun i j => decide (j < i)) (mOp2 opIx (mVar 0) (mCst (.int 0))) (mCst (.int 0))))
    (mSeq (mAsg (gTp 2 (gCons (gSub (mVar 0) (mCst (.int 0))) (gCons (gNm 3) gNil))) (mOpN opDm (mCons (mOp2 opIx (mVar 0) (mCst (.int 0))) (mCons (mVar 1) mNil))))
    (mRet (mVar 3)))
    mPass)
    (mSeq (mAsg (gSub (mVar 0) (mCst (.int 2))) (mOp2 (opAdd false) (mOp2 opIx (mVar 0) (mCst (.int 2))) (mCst (.int 1))))
    (mSeq (mAsg (gNm 2) (mOp2 opMod (mOpN opInt (mCons (mOp2 (opAdd false) (mOp2 (opAdd false) (mOp2 (opMul false) (mOp2 opIx (mVar 0) (mCst (.int 1))) (mCst (.int c1))) (mOp2 (opMul false) (mOp2 opIx (mVar 0) (mCst (.int 2))) (mCst (.int c2)))) (mCst (.int c3))) mNil)) (mCst (.int c4))))
    (mSeq (mAsg (gSub (mVar 0) (mCst (.int 1))) (mVar 2))
    (mRet (mOp2 opMod (mOpN opInt (mCons (mOp2 opDiv (mOp2 opMod (mOpN opInt (mCons (mOp2 (opMul false) (mVar 2) (mOp2 (opAdd false) (mOp2 opMod (mOpN opInt (mCons (mVar 2) mNil)) (mCst (.int c5))) (mCst (.int c6)))) mNil)) (mCst (.int c7))) (mCst (.int c8))) mNil)) (mVar 1)))))))
theorem o_mul' {m : Bool} {s : Sto} {i j : Int} (h : mulB i j = true) : opMul m (.int i) (.int j) s = .ok (.int (i * j)) s := if_pos h
theorem pull_ok {c1 c2 c3 c4 c5 c6 c7 c8 : Int} (q1 : 0 < c1 ∧ c1 < 4294967296) (q2 : 0 < c2 ∧ c2 < 4294967296) (q4 : 0 < c4 ∧ c4 < 4294967296) (q5 : 0 < c5 ∧ c5 < 4294967296) (q6 : 0 ≤ c6 ∧ c6 < 4294967296) (q7 : 0 < c7 ∧ c7 < 18446744073709551616) (q8 : 0 < c8 ∧ c8 < 4294967296) {s : Sto} {u : Nat} {k0 t : Int} (U : Urn s u k0) (hk : k0 ≤ 10 ^ 100) (ht : 0 < t) (ht2 : t ≤ 10 ^ 300) :
    (runB 2 4 (mPull c1 c2 c3 c4 c5 c6 c7 c8) [.ref u, .int t] s).wp fun d s' => ∃ x, d = .int x ∧ 0 ≤ x ∧ x < t ∧ Urn s' u (k0 + 1) ∧ Kp u s s' := by
  obtain ⟨a, seed, k, hu, ha, h1, h2, h3, h4⟩ := U.ex
  obtain ⟨q1, q1'⟩ := q1
  obtain ⟨q2, q2'⟩ := q2
  obtain ⟨q4, q4'⟩ := q4
  obtain ⟨q5, q5'⟩ := q5
  obtain ⟨q6, q6'⟩ := q6
  obtain ⟨q7, q7'⟩ := q7
  obtain ⟨q8, q8'⟩ := q8
  have hs := set_at hu
  have ix1 := fun (ds : List D) (i : Int) => o_ixS (i := i) (hs (.lst ds))
  have st1 := fun (ds : List D) (i : Int) (d : D) => setIx_S (i := i) (d := d) (hs (.lst ds))
  by_cases h : 0 < a
  · simp (disch := first | omega | (simp; done) | (simp; omega)) [runB, mPull, o_ixS hu, h, setIx_S hu]
    exact ⟨Int.emod_nonneg _ (by omega), Int.emod_lt_of_pos _ ht, ⟨_, _, _, hs _, Int.ediv_nonneg ha (by omega), h1, h2, h3, by omega⟩, Kp.set u s _⟩
  · have m1 : mulB seed c1 = true := mulB_of _ _ (by omega) (by omega) (by omega) (by omega)
    have m2 : mulB (k + 1) c2 = true := mulB_of _ _ (by omega) (by omega) (by omega) (by omega)
    have p1 := Int.emod_nonneg (seed * c1 + (k + 1) * c2 + c3) (show c4 ≠ 0 by omega)
    have p2 := Int.emod_lt_of_pos (seed * c1 + (k + 1) * c2 + c3) (show 0 < c4 by omega)
    have p3 := Int.emod_nonneg ((seed * c1 + (k + 1) * c2 + c3) % c4) (show c5 ≠ 0 by omega)
    have p4 := Int.emod_lt_of_pos ((seed * c1 + (k + 1) * c2 + c3) % c4) (show 0 < c5 by omega)
    have m3 : mulB ((seed * c1 + (k + 1) * c2 + c3) % c4) ((seed * c1 + (k + 1) * c2 + c3) % c4 % c5 + c6) = true := mulB_of _ _ (by omega) (by omega) (by omega) (by omega)
    simp (disch := first | omega | (simp; done) | (simp; omega)) [runB, mPull, o_ixS hu, h, setIx_S hu, ix1, st1, o_mul' m1, o_mul' m2, o_mul' m3]
    exact ⟨Int.emod_nonneg _ (by omega), Int.emod_lt_of_pos _ ht, ⟨_, _, _, hs _, by omega, p1, by omega, by omega, by omega⟩, Kp.set u s _⟩
/-- the def that pulls -/
def PullF (F : Fn) (id : Nat) : Prop := ∀ (s : Sto) (u : Nat) (k0 t : Int), Urn s u k0 → k0 ≤ 10 ^ 100 → 0 < t → t ≤ 10 ^ 300 →
  (F id [.ref u, .int t] s).wp fun d s' => ∃ x, d = .int x ∧ 0 ≤ x ∧ x < t ∧ Urn s' u (k0 + 1) ∧ Kp u s s'
def mOne (id : Nat) (F : Fn) : MS := (mRet (mOp2 opIx (mVar 1) (mCall F id [.at 0, .at 1] (mCons (mVar 0) (mCons (mOpN (un1 opLen) (mCons (mVar 1) mNil)) mNil)))))
theorem one_ok {F : Fn} {id : Nat} (P : PullF F id) {s : Sto} {u : Nat} {k0 : Int} {ds : List D} (U : Urn s u k0) (hk : k0 ≤ 10 ^ 100) (h0 : 0 < ds.length) (h1 : ds.length ≤ 1000000) :
    (runB 2 2 (mOne id F) [.ref u, .tup ds] s).wp fun d s' => d ∈ ds ∧ Urn s' u (k0 + 1) ∧ Kp u s s' := by
  simp [runB, mOne]
  refine R.wp_mono (P s u k0 ds.length U hk (by omega) (by omega)) fun d s' h => ?_
  obtain ⟨x, rfl, x0, x1, U', K⟩ := h
  rw [o_ixT ds x x0 (by omega)]
  refine ⟨?_, U', K⟩
  rw [List.getD_eq_getElem?_getD, List.getElem?_eq_getElem (by omega)]
  exact List.getElem_mem _
def OneF (F : Fn) (id : Nat) : Prop := ∀ (s : Sto) (u : Nat) (k0 : Int) (ds : List D), Urn s u k0 → k0 ≤ 10 ^ 100 → 0 < ds.length → ds.length ≤ 1000000 →
  (F id [.ref u, .tup ds] s).wp fun d s' => d ∈ ds ∧ Urn s' u (k0 + 1) ∧ Kp u s s'
@[simp] theorem x_sl (m : Bool) (a : ME) (lo hi : Option ME) {env : Ev} {st : Sto} : mSl m a lo hi env st = (a env st).bd fun x s => (mPart lo env s).bd fun l s1 => (mPart hi env s1).bd fun h s2 => opSl m x l h s2 := _root_.id rfl
@[simp] theorem x_partN {env : Ev} {st : Sto} : mPart none env st = .ok none st := _root_.id rfl
@[simp] theorem x_partS (a : ME) {env : Ev} {st : Sto} : mPart (some a) env st = (a env st).bd fun x s => match x with
    | .int i => .ok (some i) s
    | _ => .bad := _root_.id rfl
@[simp] theorem o_slR (m : Bool) (ds : List D) (lo hi : Option Int) {s : Sto} : opSl m (.ro ds) lo hi s = newL m (cutD ds lo hi) s := _root_.id rfl
@[simp] theorem o_slL (m : Bool) (ds : List D) (lo hi : Option Int) {s : Sto} : opSl m (.lst ds) lo hi s = newL m (cutD ds lo hi) s := _root_.id rfl
@[simp] theorem o_slT (m : Bool) (ds : List D) (lo hi : Option Int) {s : Sto} : opSl m (.tup ds) lo hi s = .ok (.tup (cutD ds lo hi)) s := _root_.id rfl
theorem cutD_mem {ds : List D} {lo hi : Option Int} {d : D} (h : d ∈ cutD ds lo hi) : d ∈ ds := List.mem_of_mem_drop (List.mem_of_mem_take h)
theorem app_at (s : Sto) (x : O) : (s ++ [x])[s.length]? = some x := by simp
def mUrn (c1 c2 c3 c4 c5 c6 c7 c8 c9 c10 c11 e1 e2 : Int) : MS := (mSeq (mAsg (gNm 2) (mIf (mTest (mOp2 (opCmp fun i j => decide (i < j)) (mVar 1) (mOpN (un1 opLen) (mCons (mVar 0) mNil)))) (mOpN opInt (mCons (mOp2 opIx (mVar 0) (mVar 1)) mNil)) (mCst (.int 0))))
    (mSeq (mAsg (gNm 3) (mOp2 (opAdd false) (mCst (.int c1)) (mOp2 (opMul false) (mCst (.int c2)) (mVar 1))))
    (mSeq (mFor (gNm 4) (mIt (mSl false (mVar 0) none (some (mCst (.int c3)))))
    (mAsg (gNm 3) (mOp2 opMod (mOpN opInt (mCons (mOp2 (opAdd false) (mOp2 (opAdd false) (mOp2 (opMul false) (mVar 3) (mCst (.int c4))) (mOp2 opMod (mOpN opInt (mCons (mVar 4) mNil)) (mCst (.int c5)))) (mCst (.int c6))) mNil)) (mCst (.int c7)))))
    (mSeq (mAsg (gNm 3) (mOp2 opMod (mOpN opInt (mCons (mOp2 (opAdd false) (mOp2 (opAdd false) (mOp2 (opMul false) (mVar 3) (mCst (.int c8))) (mOp2 (opMul false) (mOp2 opMod (mOpN opInt (mCons (mVar 2) mNil)) (mCst (.int c9))) (mCst (.int c10)))) (mCst (.int c11))) mNil)) (mCst (.int c7))))
    (mRet (mOpN (opLst true) (mCons (mIf (mOrT (mTest (mOp2 (opCmp fun i j => decide (i < j)) (mVar 2) (mCst (.int 0)))) (mTest (mOp2 (opCmp fun i j => decide (j ≤ i)) (mVar 2) (mOp2 opPow (mCst (.int e1)) (mCst (.int e2)))))) (mOpN opAbs (mCons (mVar 2) mNil)) (mCst (.int 0))) (mCons (mVar 3) (mCons (mCst (.int 0)) mNil)))))))))
theorem urn_ok {c1 c2 c3 c4 c5 c6 c7 c8 c9 c10 c11 e1 e2 : Int} (q1 : 0 ≤ c1 ∧ c1 < 4294967296) (q2 : 0 ≤ c2 ∧ c2 < 4294967296) (q4 : 0 < c4 ∧ c4 < 4294967296) (q5 : 0 < c5 ∧ c5 < 4294967296) (q7 : 0 < c7 ∧ c7 < 4294967296) (q8 : 0 < c8 ∧ c8 < 4294967296) (q9 : 0 < c9 ∧ c9 < 4294967296) (q10 : 0 ≤ c10 ∧ c10 < 4294967296) (qe : 0 ≤ e1 ∧ e1 < 100000) (qe2 : 0 ≤ e2 ∧ e2 ≤ 100)
    {s : Sto} {ns : List Int} {t : Nat} (ht : t ≤ 1000000) :
    (runB 2 5 (mUrn c1 c2 c3 c4 c5 c6 c7 c8 c9 c10 c11 e1 e2) [.ro (ns.map .int), .int t] s).wp fun d s' => d = .ref s.length ∧ Urn s' s.length 0 ∧ ∃ x, s' = s ++ [x] := by
  obtain ⟨q1, q1'⟩ := q1
  obtain ⟨q2, q2'⟩ := q2
  obtain ⟨q4, q4'⟩ := q4
  obtain ⟨q5, q5'⟩ := q5
  obtain ⟨q7, q7'⟩ := q7
  obtain ⟨q8, q8'⟩ := q8
  obtain ⟨q9, q9'⟩ := q9
  obtain ⟨q10, q10'⟩ := q10
  obtain ⟨qe, qe'⟩ := qe
  obtain ⟨qf, qf'⟩ := qe2
  -- his own number
  have own : ∃ o : Int, (mIf (mTest (mOp2 (opCmp fun i j => decide (i < j)) (mVar 1) (mOpN (un1 opLen) (mCons (mVar 0) mNil)))) (mOpN opInt (mCons (mOp2 opIx (mVar 0) (mVar 1)) mNil)) (mCst (.int 0))) [some (.ro (ns.map .int)), some (.int t), none, none, none] s = .ok (.int o) s := by
    by_cases h : t < ns.length
    · have e : opIx (.ro (ns.map .int)) (.int t) s = .ok (.int (ns.getD t 0)) s := by
        rw [o_ixR _ _ (by omega) (by simpa using h)]
        simp [h]
      exact ⟨ns.getD t 0, by simp [h, e]⟩
    · exact ⟨0, by simp [h]⟩
  obtain ⟨o, ho⟩ := own
  have m1 : mulB c2 t = true := mulB_of _ _ (by omega) (by omega) (by omega) (by omega)
  unfold runB mUrn
  rw [if_pos (show [D.ro (List.map D.int ns), D.int ↑t].length = 2 from rfl)]
  simp only [x_seq, x_asg]
  have ho' : (mIf (mTest (mOp2 (opCmp fun i j => decide (i < j)) (mVar 1) (mOpN (un1 opLen) (mCons (mVar 0) mNil)))) (mOpN opInt (mCons (mOp2 opIx (mVar 0) (mVar 1)) mNil)) (mCst (.int 0))) (List.map some [D.ro (ns.map .int), .int t] ++ List.replicate (5 - 2) none) s = .ok (.int o) s := ho
  rw [ho']
  simp [o_mul' m1]
  -- the loop
  have p0 : 0 ≤ c2 * (t : Int) := Int.mul_nonneg q2 (by omega)
  have p1 : c2 * (t : Int) ≤ 4294967296 * 1000000 := Int.mul_le_mul (by omega) (by omega) (by omega) (by omega)
  refine for_wp (fun l env st => st = s ∧ (∀ d ∈ l, ∃ i, d = .int i) ∧ ∃ (seed : Int) (z : Option D), env = [some (.ro (ns.map .int)), some (.int t), some (.int o), some (.int seed), z] ∧ 0 ≤ seed ∧ seed ≤ 4294967296 * 1000001) ?_ ?_ _ _ _ ⟨rfl, ?_, _, _, rfl, by omega, by omega⟩
  · rintro d r env st ⟨rfl, hi, seed, z, rfl, h1, h2⟩
    obtain ⟨i, rfl⟩ := hi _ (.head _)
    have m2 : mulB seed c4 = true := mulB_of _ _ (by omega) (by omega) (by omega) (by omega)
    simp (disch := omega) [o_mul' m2]
    refine ⟨fun d hd => hi d (.tail _ hd), Int.emod_nonneg _ (by omega), ?_⟩
    have := Int.emod_lt_of_pos (seed * c4 + i % c5 + c6) q7
    omega
  · rintro env st ⟨rfl, -, seed, z, rfl, h1, h2⟩
    have m2 : mulB seed c8 = true := mulB_of _ _ (by omega) (by omega) (by omega) (by omega)
    have p2 := Int.emod_nonneg o (show c9 ≠ 0 by omega)
    have p3 := Int.emod_lt_of_pos o q9
    have m3 : mulB (o % c9) c10 = true := mulB_of _ _ (by omega) (by omega) (by omega) (by omega)
    have g1 := Int.emod_nonneg (seed * c8 + o % c9 * c10 + c11) (show c7 ≠ 0 by omega)
    have g2 := Int.emod_lt_of_pos (seed * c8 + o % c9 * c10 + c11) q7
    have cs : ∀ b : Int, (if o < 0 then R.ok true st else R.ok (decide (b ≤ o)) st) = R.ok (decide (o < 0) || decide (b ≤ o)) st := fun b => by
      by_cases h : o < 0 <;> simp [h]
    simp (disch := omega) [o_mul' m2, o_mul' m3, cs]
    split
    · simp
      refine ⟨⟨_, _, _, app_at _ _, ?_, g1, by omega, by omega, by omega⟩⟩
      split <;> omega
    · simp
      exact ⟨⟨_, _, _, app_at _ _, by omega, g1, by omega, by omega, by omega⟩⟩
  · intro d hd
    obtain ⟨i, -, e⟩ := List.mem_map.mp (cutD_mem hd)
    exact ⟨i, e.symm⟩
end Rf
set_option maxHeartbeats 4000000
namespace Rf
open PySem PySem.Spec L2
open PyProof.Rows hiding St
/-! ## texts of data -/
mutual
/-- no text of it is longer -/
def wtP : PyData → Nat
  | .none => 5
  | .bool _ => 5
  | .int i => if i.natAbs < 10 ^ 61 then 62 else 1921
  | .str x => (reprText x).length
  | .list xs => wtPs xs + 3
  | .tuple xs => wtPs xs + 3
  | .dict _ => 0
def wtPs : List PyData → Nat
  | [] => 0
  | x :: xs => wtP x + 2 + wtPs xs
end
theorem textFrom_le : ∀ (ts : List Str) (k : Nat) (acc : Str), (textFrom k acc ts).length ≤ acc.length + piled ts
  | [], k, acc => Nat.le_add_right _ _
  | t :: r, k, acc => by
    have ih := textFrom_le r (k + 1) (acc ++ (if k > 0 then ", " else "" : String) ++ t)
    have e : (acc ++ (if k > 0 then ", " else "" : String) ++ t).length = acc.length + (if k > 0 then 2 else 0) + t.length := by
      rw [strLen_append, strLen_append]
      split <;> rfl
    rw [e] at ih
    show (textFrom (k + 1) _ r).length ≤ _
    have e2 : piled (t :: r) = t.length + 2 + piled r := by simp [piled]
    have e3 : (if k > 0 then 2 else 0 : Nat) ≤ 2 := by split <;> omega
    rw [e2]
    exact Nat.le_trans ih (by omega)
theorem listText_le (ts : List Str) : (listText ts).length ≤ piled ts + 3 := by
  unfold listText
  rw [strLen_append]
  have h := textFrom_le ts 0 "["
  have e1 : ((("[" : String) : Str)).length = 1 := rfl
  have e2 : ((("]" : String) : Str)).length = 1 := rfl
  omega
theorem tupleText_le (ts : List Str) : (tupleText ts).length ≤ piled ts + 3 := by
  unfold tupleText
  rw [strLen_append, strLen_append]
  have e1 : ((("(" : String) : Str)).length = 1 := rfl
  have e3 : (((if ts.length == 1 then ",)" else ")" : String) : Str)).length ≤ 2 := by split <;> decide
  by_cases h : ts = []
  · subst h
    have : (Str.join ", " []).length = 0 := rfl
    omega
  · have := join_length_add ts h
    omega
mutual
theorem shown_le : ∀ p : PyData, p.showable = true → p.hasDict = false → p.shown.length ≤ wtP p
  | .none, _, _ => by simp only [PyData.shown, wtP]; decide
  | .bool b, _, _ => by cases b <;> (simp only [PyData.shown, wtP]; decide)
  | .int i, h, _ => by
    simp only [PyData.shown, wtP]
    split
    · rename_i hs
      rw [PySem.ofString_length]
      exact int_text_length_le10 (by decide) hs
    · exact int_text_len_1921 (of_decide_eq_true (by simpa only [PyData.showable] using h))
  | .str x, _, _ => by simp only [PyData.shown, wtP]; exact Nat.le_refl _
  | .list xs, h, h2 => by
    simp only [PyData.shown, wtP]
    have := shownAll_le xs (by simpa only [PyData.showable] using h) (by simpa only [PyData.hasDict] using h2)
    exact Nat.le_trans (listText_le _) (by omega)
  | .tuple xs, h, h2 => by
    simp only [PyData.shown, wtP]
    have := shownAll_le xs (by simpa only [PyData.showable] using h) (by simpa only [PyData.hasDict] using h2)
    exact Nat.le_trans (tupleText_le _) (by omega)
  | .dict _, _, h => by simp [PyData.hasDict] at h
theorem shownAll_le : ∀ ps : List PyData, PyData.showableAll ps = true → PyData.hasDictAll ps = false → piled (PyData.shownAll ps) ≤ wtPs ps
  | [], _, _ => by simp only [PyData.shownAll, wtPs]; exact Nat.le_refl _
  | p :: ps, h, h2 => by
    simp only [PyData.showableAll, Bool.and_eq_true] at h
    simp only [PyData.hasDictAll, Bool.or_eq_false_iff] at h2
    have a := shown_le p h.1 h2.1
    have b := shownAll_le ps h.2 h2.2
    simp only [PyData.shownAll, wtPs]
    have e2 : piled (p.shown :: PyData.shownAll ps) = p.shown.length + 2 + piled (PyData.shownAll ps) := by simp [piled]
    omega
end
/-- it may be shown -/
def shwB (p : PyData) : Bool := p.showable && !p.hasDict && decide (wtP p ≤ 16000000) && decide (p.depth ≤ 64)
theorem shwB_ok {p : PyData} (h : shwB p = true) : shownB p = true := by
  unfold shwB at h
  simp only [Bool.and_eq_true, Bool.not_eq_true', decide_eq_true_eq] at h
  obtain ⟨⟨⟨h1, h2⟩, h3⟩, h4⟩ := h
  have := shown_le p h1 h2
  unfold shownB
  simp only [Bool.and_eq_true, Bool.not_eq_true', decide_eq_true_eq]
  exact ⟨⟨⟨h1, Nat.le_trans this (Nat.le_trans h3 (by decide))⟩, h4⟩, h2⟩
/-- _law_is upon the same datum twice -/
def mIs : MS := (mRet (mOp2 (opEq false) (mOpN opRepr (mCons (mVar 0) mNil)) (mOpN opRepr (mCons (mVar 1) mNil))))
theorem strEq (x : Str) {s : Sto} : opEq false (.str x) (.str x) s = .ok (.bl true) s := by
  show R.ok (D.bl (decide (x = x))) s = _
  rw [decide_eq_true rfl]
theorem is_same {x y : D} {s : Sto} {p : PyData} (h : toPd x s = some p) (h2 : toPd y s = some p) (hp : shwB p = true) : runB 2 2 mIs [x, y] s = .ok (.bl true) s := by
  have e1 : opRepr [x] s = .ok (.str p.shown) s := by
    show (match toPd x s with | some p => if shownB p then R.ok (D.str p.shown) s else .bad | none => .bad) = _
    rw [h]
    show (if shownB p = true then R.ok (D.str p.shown) s else .bad) = _
    rw [if_pos (shwB_ok hp)]
  have e2 : opRepr [y] s = .ok (.str p.shown) s := by
    show (match toPd y s with | some p => if shownB p then R.ok (D.str p.shown) s else .bad | none => .bad) = _
    rw [h2]
    show (if shownB p = true then R.ok (D.str p.shown) s else .bad) = _
    rw [if_pos (shwB_ok hp)]
  simp [runB, mIs, e1, e2, strEq]
/-- a number may be shown -/
theorem shwI {i : Int} (h1 : -(10 ^ 300) ≤ i) (h2 : i ≤ 10 ^ 300) : PyData.showable (.int i) = true := by
  have h : i.natAbs < 2 ^ 1200 := by
    have h0 : i.natAbs ≤ 10 ^ 300 := by omega
    exact Nat.lt_of_le_of_lt h0 (by decide +kernel)
  simp only [PyData.showable]
  by_cases e : i.natAbs = 0
  · rw [e]; decide
  · exact decide_eq_true (Nat.lt_trans ((Nat.log2_lt e).mpr h) (by decide))
theorem shwL {i : Int} (h1 : -(10 ^ 300) ≤ i) (h2 : i ≤ 10 ^ 300) : i.natAbs.log2 < 1920 := of_decide_eq_true (by simpa only [PyData.showable] using shwI h1 h2)
/-- the law's own loop over its turns -/
def mLawFor (idR idU : Nat) (F : Fn) (lo hi : Int) : MS := (mSeq (mFor (gNm 1) (mRg (mCons (mOpN opMax (mCons (mCst (.int lo)) (mCons (mOpN opMin (mCons (mOpN (un1 opLen) (mCons (mVar 0) mNil)) (mCons (mCst (.int hi)) mNil))) mNil))) mNil))
    (mIfS (mNotT (mTest (mCall F idR [.at 0] (mCons (mCall F idU [.at 0, .at 1] (mCons (mVar 0) (mCons (mVar 1) mNil))) mNil))))
    (mRet (mCst (.bl false)))
    mPass))
    (mRet (mCst (.bl true))))
theorem law_ok {F : Fn} {idR idU : Nat} {lo hi : Int} (ns : List Int) (hl : 0 ≤ lo ∧ lo ≤ 1000) (hh : 0 ≤ hi ∧ hi ≤ 1000)
    (hU : ∀ (s : Sto) (t : Nat), t ≤ 1000000 → (F idU [.ro (ns.map .int), .int t] s).wp fun d s' => d = .ref s.length ∧ Urn s' s.length 0 ∧ ∃ x, s' = s ++ [x])
    (hR : ∀ (s : Sto) (u : Nat), Urn s u 0 → (F idR [.ref u] s).wp fun d _ => d = .bl true) :
    (runB 1 2 (mLawFor idR idU F lo hi) [.ro (ns.map .int)] []).wp fun d _ => d = .bl true := by
  obtain ⟨hl, hl'⟩ := hl
  obtain ⟨hh, hh'⟩ := hh
  let b : Int := if (if hi < (ns.length : Int) then hi else ns.length) > lo then (if hi < (ns.length : Int) then hi else ns.length) else lo
  have b0 : 0 ≤ b := by show 0 ≤ ite _ _ _; split <;> (try split) <;> omega
  have b1 : b ≤ 1000 := by show ite _ _ _ ≤ (1000 : Int); split <;> (try split) <;> omega
  have hrg : rgB 0 b = true := rgB_yes 0 b (by omega) (by omega) (by omega) (by omega) (by omega)
  have e : (mRg (mCons (mOpN opMax (mCons (mCst (.int lo)) (mCons (mOpN opMin (mCons (mOpN (un1 opLen) (mCons (mVar 0) mNil)) (mCons (mCst (.int hi)) mNil))) mNil))) mNil)) [some (.ro (ns.map .int)), none] [] = .ok (rgI 0 b, none) [] := by
    have e1 : (mOpN opMax (mCons (mCst (.int lo)) (mCons (mOpN opMin (mCons (mOpN (un1 opLen) (mCons (mVar 0) mNil)) (mCons (mCst (.int hi)) mNil))) mNil))) [some (.ro (ns.map .int)), none] [] = .ok (.int b) [] := by
      simp
      rfl
    show ((mCons _ mNil) _ _).bd _ = _
    rw [x_cons, e1]
    simp [hrg]
  unfold runB mLawFor
  rw [if_pos (show [D.ro (List.map D.int ns)].length = 1 from rfl)]
  rw [x_seq, x_for]
  have e' : (mRg (mCons (mOpN opMax (mCons (mCst (.int lo)) (mCons (mOpN opMin (mCons (mOpN (un1 opLen) (mCons (mVar 0) mNil)) (mCons (mCst (.int hi)) mNil))) mNil))) mNil)) (List.map some [D.ro (ns.map .int)] ++ List.replicate (2 - 1) none) [] = .ok (rgI 0 b, none) [] := e
  rw [e']
  simp only [R.bd_ok, wp_bd']
  refine for_wp (fun l env st => (∀ d ∈ l, ∃ t : Nat, d = .int t ∧ t ≤ 1000000) ∧ ∃ z, env = [some (.ro (ns.map .int)), z]) ?_ ?_ _ _ _ ⟨?_, _, rfl⟩
  · rintro d r env st ⟨hi', z, rfl⟩
    obtain ⟨t, rfl, ht⟩ := hi' _ (.head _)
    simp
    refine R.wp_mono (hU st t ht) fun d s' h => ?_
    obtain ⟨rfl, U, x, rfl⟩ := h
    refine R.wp_mono (hR _ _ U) fun d s' h => ?_
    subst h
    simp
    exact fun d hd => hi' d (.tail _ hd)
  · rintro env st ⟨-, z, rfl⟩
    simp
  · intro d hd
    unfold rgI at hd
    obtain ⟨i, hi1, rfl⟩ := List.mem_map.mp hd
    have := List.mem_range.mp hi1
    exact ⟨i, by simp, by omega⟩
end Rf
set_option maxHeartbeats 400000
namespace Rf
open PySem PySem.Spec L2
open PyProof.Rows hiding St
/-! ## comprehensions, read -/
@[simp] theorem x_lc (m : Bool) (vs : List Nat) (g : MG) (mt : MT) (me : ME) (mi : MI) {env : Ev} {st : Sto} : mLc m vs g mt me mi env st = (mi env st).bd fun p s => (lcL vs g mt me p.2 p.1 env p.1 s []).bd fun acc s2 => newL m acc s2 := _root_.id rfl
@[simp] theorem x_yes {env : Ev} {st : Sto} : mYes env st = .ok true st := _root_.id rfl
@[simp] theorem x_dct {env : Ev} {st : Sto} : mDct env st = .ok (.dct []) st := _root_.id rfl
@[simp] theorem w_nil (env : Ev) : wipeE env [] = env := _root_.id rfl
@[simp] theorem w_cons (env : Ev) (v : Nat) (vs : List Nat) : wipeE env (v :: vs) = (wipeE env vs).set v none := _root_.id rfl
theorem lc_wp {vs : List Nat} {g : MG} {mt : MT} {me : ME} {all : List D} {env : Ev} (I : List D → Sto → List D → Prop) {Q : List D → Sto → Prop}
    (hs : ∀ d r st acc, I (d :: r) st acc → (g d (wipeE env vs) st).wp fun e s => (mt e s).wp fun k s2 => if k then (me e s2).wp fun y s3 => I r s3 (acc ++ [y]) else I r s2 acc)
    (he : ∀ st acc, I [] st acc → Q acc st) : ∀ (l : List D) (st : Sto) (acc : List D), I l st acc → (lcL vs g mt me none all env l st acc).wp Q
  | [], st, acc, h => he st acc h
  | d :: r, st, acc, h => by
    show ((g d (wipeE env vs) st).bd fun e s => (mt e s).bd fun k s2 => if k then (me e s2).bd fun y s3 => lcL vs g mt me none all env r s3 (acc ++ [y]) else lcL vs g mt me none all env r s2 acc).wp Q
    rw [wp_bd']
    refine R.wp_mono (hs d r st acc h) fun e s h1 => ?_
    rw [wp_bd']
    refine R.wp_mono h1 fun k s2 h2 => ?_
    cases k with
    | true =>
      rw [if_pos rfl] at h2 ⊢
      rw [wp_bd']
      exact R.wp_mono h2 fun y s3 h3 => lc_wp I hs he r s3 _ h3
    | false =>
      rw [if_neg (by decide)] at h2 ⊢
      exact lc_wp I hs he r s2 _ h2
/-- each turn one value, the store kept -/
theorem lc_map {vs : List Nat} {g : MG} {me : ME} {all : List D} {env : Ev} {st : Sto} {f : D → D} : ∀ (l : List D) (acc : List D), (∀ d ∈ l, ∃ e, g d (wipeE env vs) st = .ok e st ∧ me e st = .ok (f d) st) → lcL vs g mYes me none all env l st acc = .ok (acc ++ l.map f) st
  | [], acc, _ => by simp [lcL, gstB]
  | d :: r, acc, h => by
    obtain ⟨e, h1, h2⟩ := h d (.head _)
    have ih := lc_map (all := all) r (acc ++ [f d]) fun d' hd' => h d' (.tail _ hd')
    unfold lcL
    rw [if_pos (show gstB none all st = true from rfl), h1]
    simp [h2, ih]
theorem bls_map (bs : List Bool) : bls (bs.map D.bl) = some bs := by
  induction bs with
  | nil => rfl
  | cons b bs ih =>
    show (match bls (bs.map D.bl) with | some cs => some (b :: cs) | none => none) = _
    rw [ih]
theorem o_all {f : D → Bool} {ds : List D} {st : Sto} : opBls (fun bs => .bl (bs.all id)) [.lst (ds.map fun d => .bl (f d))] st = .ok (.bl (ds.all f)) st := by
  have e : (ds.map fun d => D.bl (f d)) = (ds.map f).map D.bl := by simp
  show (match bls (ds.map fun d => D.bl (f d)) with | some bs => R.ok (D.bl (bs.all id)) st | none => .bad) = _
  rw [e, bls_map]
  simp [List.all_map]
/-- the law's all over its turns -/
def mLawAll (idR idU : Nat) (F : Fn) (lo hi : Int) : MS := (mRet (mOpN (opBls fun bs => .bl (bs.all id)) (mCons (mLc false [1] (gNm 1) mYes (mCall F idR [.at 0] (mCons (mCall F idU [.at 0, .at 1] (mCons (mVar 0) (mCons (mVar 1) mNil))) mNil)) (mRg (mCons (mOpN opMax (mCons (mCst (.int lo)) (mCons (mOpN opMin (mCons (mOpN (un1 opLen) (mCons (mVar 0) mNil)) (mCons (mCst (.int hi)) mNil))) mNil))) mNil))) mNil)))
theorem lawAll_ok {F : Fn} {idR idU : Nat} {lo hi : Int} (ns : List Int) (hl : 0 ≤ lo ∧ lo ≤ 1000) (hh : 0 ≤ hi ∧ hi ≤ 1000)
    (hU : ∀ (s : Sto) (t : Nat), t ≤ 1000000 → (F idU [.ro (ns.map .int), .int t] s).wp fun d s' => d = .ref s.length ∧ Urn s' s.length 0 ∧ ∃ x, s' = s ++ [x])
    (hR : ∀ (s : Sto) (u : Nat), Urn s u 0 → (F idR [.ref u] s).wp fun d _ => d = .bl true) :
    (runB 1 2 (mLawAll idR idU F lo hi) [.ro (ns.map .int)] []).wp fun d _ => d = .bl true := by
  obtain ⟨hl, hl'⟩ := hl
  obtain ⟨hh, hh'⟩ := hh
  let b : Int := if (if hi < (ns.length : Int) then hi else ns.length) > lo then (if hi < (ns.length : Int) then hi else ns.length) else lo
  have b0 : 0 ≤ b := by show 0 ≤ ite _ _ _; split <;> (try split) <;> omega
  have b1 : b ≤ 1000 := by show ite _ _ _ ≤ (1000 : Int); split <;> (try split) <;> omega
  have hrg : rgB 0 b = true := rgB_yes 0 b (by omega) (by omega) (by omega) (by omega) (by omega)
  have e : (mRg (mCons (mOpN opMax (mCons (mCst (.int lo)) (mCons (mOpN opMin (mCons (mOpN (un1 opLen) (mCons (mVar 0) mNil)) (mCons (mCst (.int hi)) mNil))) mNil))) mNil)) [some (.ro (ns.map .int)), none] [] = .ok (rgI 0 b, none) [] := by
    have e1 : (mOpN opMax (mCons (mCst (.int lo)) (mCons (mOpN opMin (mCons (mOpN (un1 opLen) (mCons (mVar 0) mNil)) (mCons (mCst (.int hi)) mNil))) mNil))) [some (.ro (ns.map .int)), none] [] = .ok (.int b) [] := by
      simp
      rfl
    show ((mCons _ mNil) _ _).bd _ = _
    rw [x_cons, e1]
    simp [hrg]
  unfold runB mLawAll
  rw [if_pos (show [D.ro (List.map D.int ns)].length = 1 from rfl)]
  rw [x_ret, x_opN, x_cons, x_lc]
  have e' : (mRg (mCons (mOpN opMax (mCons (mCst (.int lo)) (mCons (mOpN opMin (mCons (mOpN (un1 opLen) (mCons (mVar 0) mNil)) (mCons (mCst (.int hi)) mNil))) mNil))) mNil)) (List.map some [D.ro (ns.map .int)] ++ List.replicate (2 - 1) none) [] = .ok (rgI 0 b, none) [] := e
  rw [e']
  simp only [R.bd_ok, wp_bd']
  refine lc_wp (fun l st acc => (∀ d ∈ l, ∃ t : Nat, d = .int t ∧ t ≤ 1000000) ∧ ∃ n : Nat, acc = (List.replicate n true).map D.bl) ?_ ?_ _ _ _ ⟨?_, 0, rfl⟩
  · rintro d r st acc ⟨hi', n, rfl⟩
    obtain ⟨t, rfl, ht⟩ := hi' _ (.head _)
    simp
    refine R.wp_mono (hU st t ht) fun d s' h => ?_
    obtain ⟨rfl, U, x, rfl⟩ := h
    refine R.wp_mono (hR _ _ U) fun d s' h => ?_
    subst h
    refine ⟨fun d hd => hi' d (.tail _ hd), n + 1, ?_⟩
    rw [List.replicate_succ']
  · rintro st acc ⟨-, n, rfl⟩
    have q : opBls (fun bs => .bl (bs.all id)) [.lst ((List.replicate n true).map D.bl)] st = .ok (.bl ((List.replicate n true).all id)) st := by
      show (match bls ((List.replicate n true).map D.bl) with | some bs => R.ok (D.bl (bs.all id)) st | none => .bad) = _
      rw [bls_map]
    simp only [n_f, R.bd_ok, wp_bd', wp_ok', x_nil, q]
    simp
  · intro d hd
    unfold rgI at hd
    obtain ⟨i, hi1, rfl⟩ := List.mem_map.mp hd
    have := List.mem_range.mp hi1
    exact ⟨i, by simp, by omega⟩
/-! ## the greatest common divisor by a loop -/
theorem mod_half {a b : Nat} (hb : 0 < b) (hr : 0 < a % b) : 2 * (b % (a % b)) < b := by
  have h1 : a % b < b := Nat.mod_lt _ hb
  have h2 : b % (a % b) < a % b := Nat.mod_lt _ hr
  by_cases h : 2 * (a % b) ≤ b
  · omega
  · have : b % (a % b) = b - a % b := by
      rw [Nat.mod_eq_sub_mod (by omega)]
      exact Nat.mod_eq_of_lt (by omega)
    omega
theorem gcd_loop {c : MT} {m : MS} {env : Nat → Nat → Ev} {st : Sto} (hc : ∀ a b, c (env a b) st = .ok (decide (0 < b)) st) (hm : ∀ a b, 0 < b → m (env a b) st = .ok (.nx (env b (a % b))) st) :
    ∀ (k n a b : Nat), b < 2 ^ k → 2 * k + 1 ≤ n → whl c m n (env a b) st = .ok (.nx (env (Nat.gcd a b) 0)) st := by
  have stop : ∀ (n a : Nat), 1 ≤ n → whl c m n (env a 0) st = .ok (.nx (env (Nat.gcd a 0) 0)) st := by
    intro n a hn
    cases n with
    | zero => omega
    | succ n =>
      unfold whl
      rw [hc]
      simp
  have go : ∀ (n a b : Nat), 0 < b → whl c m (n + 1) (env a b) st = whl c m n (env b (a % b)) st := by
    intro n a b h
    have e : whl c m (n + 1) (env a b) st = (c (env a b) st).bd fun k s => if k then (m (env a b) s).bd fun f s2 => match f with
      | .nx e => whl c m n e s2
      | .ct e => whl c m n e s2
      | .bk e => .ok (.nx e) s2
      | .rt d => .ok (.rt d) s2
    else .ok (.nx (env a b)) s := rfl
    rw [e, hc, R.bd_ok, decide_eq_true h, if_pos rfl, hm a b h]
    rfl
  have gr : ∀ a b : Nat, Nat.gcd a b = Nat.gcd b (a % b) := fun a b => by rw [Nat.gcd_comm a b, Nat.gcd_rec b a, Nat.gcd_comm]
  intro k
  induction k with
  | zero =>
    intro n a b hb hn
    have : b = 0 := by simpa using hb
    subst this
    exact stop n a (by omega)
  | succ k ih =>
    intro n a b hb hn
    by_cases h0 : b = 0
    · subst h0
      exact stop n a (by omega)
    · obtain ⟨n, rfl⟩ : ∃ m, n = m + 1 := ⟨n - 1, by omega⟩
      rw [go n a b (by omega), gr a b]
      by_cases h1 : a % b = 0
      · rw [h1]
        exact stop n b (by omega)
      · obtain ⟨n, rfl⟩ : ∃ m, n = m + 1 := ⟨n - 1, by omega⟩
        rw [go n b (a % b) (by omega), gr b (a % b)]
        have := mod_half (a := a) (b := b) (by omega) (by omega)
        exact ih n _ _ (by rw [Nat.pow_succ] at hb; omega) (by omega)
end Rf
set_option maxHeartbeats 400000
namespace Rf
open PySem PySem.Spec L2
open PyProof.Rows hiding St
/-! ## anything: plain data, its numbers no greater than k -/
mutual
def pl (L : Nat) (k : Int) : D → Prop
  | .non => True
  | .bl _ => True
  | .str _ => True
  | .int i => -k ≤ i ∧ i ≤ k
  | .tup ds => ds.length ≤ L ∧ pls L k ds
  | .lst ds => ds.length ≤ L ∧ pls L k ds
  | .dct _ => True
  | _ => False
def pls (L : Nat) (k : Int) : List D → Prop
  | [] => True
  | d :: ds => pl L k d ∧ pls L k ds
end
theorem pls_iff {L : Nat} {k : Int} : ∀ {ds : List D}, pls L k ds ↔ ∀ d ∈ ds, pl L k d
  | [] => Iff.intro (fun _ _ h => nomatch h) (fun _ => by unfold pls; trivial)
  | d :: ds => by
    have e : pls L k (d :: ds) = (pl L k d ∧ pls L k ds) := by conv => lhs; unfold pls
    rw [e, List.forall_mem_cons, pls_iff (ds := ds)]
mutual
theorem pl_mono {L L' : Nat} {k k' : Int} (hL : L ≤ L') (h : k ≤ k') : ∀ d : D, pl L k d → pl L' k' d
  | .non, _ => by unfold pl; trivial
  | .bl _, _ => by unfold pl; trivial
  | .str _, _ => by unfold pl; trivial
  | .int i, q => by unfold pl at q ⊢; omega
  | .tup ds, q => by unfold pl at q ⊢; exact ⟨by omega, pls_mono hL h ds q.2⟩
  | .lst ds, q => by unfold pl at q ⊢; exact ⟨by omega, pls_mono hL h ds q.2⟩
  | .dct _, _ => by unfold pl; trivial
  | .ro _, q => by unfold pl at q; exact q.elim
  | .ref _, q => by unfold pl at q; exact q.elim
  | .fn _, q => by unfold pl at q; exact q.elim
  | .err _ _, q => by unfold pl at q; exact q.elim
theorem pls_mono {L L' : Nat} {k k' : Int} (hL : L ≤ L') (h : k ≤ k') : ∀ ds : List D, pls L k ds → pls L' k' ds
  | [], _ => by unfold pls; trivial
  | d :: ds, q => by unfold pls at q ⊢; exact ⟨pl_mono hL h d q.1, pls_mono hL h ds q.2⟩
end
theorem pl_tup {L : Nat} {k : Int} {ds : List D} : pl L k (.tup ds) ↔ ds.length ≤ L ∧ ∀ d ∈ ds, pl L k d := by
  have e : pl L k (.tup ds) = (ds.length ≤ L ∧ pls L k ds) := by conv => lhs; unfold pl
  rw [e, pls_iff]
theorem pl_lst {L : Nat} {k : Int} {ds : List D} : pl L k (.lst ds) ↔ ds.length ≤ L ∧ ∀ d ∈ ds, pl L k d := by
  have e : pl L k (.lst ds) = (ds.length ≤ L ∧ pls L k ds) := by conv => lhs; unfold pl
  rw [e, pls_iff]
theorem pl_int {L : Nat} {k i : Int} : pl L k (.int i) ↔ -k ≤ i ∧ i ≤ k := by unfold pl; exact Iff.rfl
@[simp] theorem pl_non {L : Nat} {k : Int} : pl L k .non := by unfold pl; trivial
@[simp] theorem pl_bl {L : Nat} {k : Int} {b : Bool} : pl L k (.bl b) := by unfold pl; trivial
@[simp] theorem pl_str {L : Nat} {k : Int} {x : Str} : pl L k (.str x) := by unfold pl; trivial
@[simp] theorem pl_dct {L : Nat} {k : Int} {x : List (Key × D)} : pl L k (.dct x) := by unfold pl; trivial
/-- nested so deep at most (tuples alone) -/
def pd : Nat → D → Prop
  | 0, .tup _ => False
  | 0, _ => True
  | m + 1, .tup ds => ∀ d ∈ ds, pd m d
  | _ + 1, _ => True
def tyP : D → Ty
  | .bl _ => .bool
  | .int _ => .int
  | .str _ => .str
  | .tup _ => .tuple
  | .lst _ => .list
  | .dct _ => .dict
  | _ => .none
theorem isi_pl {L : Nat} {k : Int} {d : D} (h : pl L k d) (t : Ty) {s : Sto} : opIsi t d s = .ok (.bl ((tyP d).sub t)) s := by
  cases d <;> first | rfl | (unfold pl at h; exact h.elim)
@[simp] theorem o_eqI (i j : Int) {s : Sto} : opEq false (.int i) (.int j) s = .ok (.bl (decide (i = j))) s := by
  have e : PyData.eqv (.int i) (.int j) = decide (i = j) := by
    simp [PyData.eqv]
    rfl
  show (if (PyData.int i).canLay0 && (PyData.int j).canLay0 && decide (min (PyData.int i).depth (PyData.int j).depth ≤ 64) then R.ok (D.bl (PyData.eqv (.int i) (.int j))) s else .bad) = _
  rw [e, if_pos]
  simp [PyData.canLay0, PyData.depth]
@[simp] theorem o_neI (i j : Int) {s : Sto} : opEq true (.int i) (.int j) s = .ok (.bl (!decide (i = j))) s := by
  have e : PyData.eqv (.int i) (.int j) = decide (i = j) := by
    simp [PyData.eqv]
    rfl
  show (if (PyData.int i).canLay0 && (PyData.int j).canLay0 && decide (min (PyData.int i).depth (PyData.int j).depth ≤ 64) then R.ok (D.bl (!PyData.eqv (.int i) (.int j))) s else .bad) = _
  rw [e, if_pos]
  simp [PyData.canLay0, PyData.depth]
@[simp] theorem o_eqS (x y : Str) {s : Sto} : opEq false (.str x) (.str y) s = .ok (.bl (decide (x = y))) s := _root_.id rfl
@[simp] theorem o_neS (x y : Str) {s : Sto} : opEq true (.str x) (.str y) s = .ok (.bl (!decide (x = y))) s := _root_.id rfl
@[simp] theorem o_neE (ds : List D) {s : Sto} : opEq true (.tup ds) (.tup []) s = .ok (.bl (!ds.isEmpty)) s := _root_.id rfl
@[simp] theorem o_eqE (ds : List D) {s : Sto} : opEq false (.tup ds) (.tup []) s = .ok (.bl ds.isEmpty) s := _root_.id rfl
theorem o_eq2 (a b c d : Int) {s : Sto} : opEq false (.tup [.int a, .int b]) (.tup [.int c, .int d]) s = .ok (.bl (decide (a = c) && decide (b = d))) s := by
  have e : PyData.eqv (.tuple [.int a, .int b]) (.tuple [.int c, .int d]) = (decide (a = c) && decide (b = d)) := by
    simp [PyData.eqv, PyData.eqvAll]
    rfl
  show (if (PyData.tuple [.int a, .int b]).canLay0 && (PyData.tuple [.int c, .int d]).canLay0 && decide (min (PyData.tuple [.int a, .int b]).depth (PyData.tuple [.int c, .int d]).depth ≤ 64) then R.ok (D.bl (PyData.eqv (.tuple [.int a, .int b]) (.tuple [.int c, .int d]))) s else .bad) = _
  rw [e, if_pos]
  simp [PyData.canLay0, PyData.canLayAll0, PyData.depth, PyData.depthAll]
@[simp] theorem o_gcd (i j : Int) {s : Sto} : opGcd [.int i, .int j] s = .ok (.int ((Nat.gcd i.natAbs j.natAbs : Nat) : Int)) s := _root_.id rfl
@[simp] theorem o_isB (a b : Bool) {s : Sto} : opIsB false (.bl a) (.bl b) s = .ok (.bl (decide (a = b))) s := _root_.id rfl
@[simp] theorem o_isN (neg : Bool) (x : D) {s : Sto} : opIsN neg x s = .ok (.bl (if neg then !isN x else isN x)) s := _root_.id rfl
@[simp] theorem o_ix0 (a : D) (r : List D) {s : Sto} : opIx (.tup (a :: r)) (.int 0) s = .ok a s := by
  rw [o_ixT _ _ (by omega) (by simp)]
  rfl
@[simp] theorem o_ix1 (a b : D) (r : List D) {s : Sto} : opIx (.tup (a :: b :: r)) (.int 1) s = .ok b s := by
  rw [o_ixT _ _ (by omega) (by simp; omega)]
  rfl
/-! ### what the predicates say -/
def isWh : D → Bool
  | .int _ => true
  | _ => false
def isBt (lo hi : Int) : D → Bool
  | .int i => decide (lo ≤ i) && decide (i ≤ hi)
  | _ => false
def isRat : D → Bool
  | .tup [.int a, .int b] => decide (0 < b) && decide (Nat.gcd a.natAbs b.natAbs = 1)
  | _ => false
def isRow (n : Int) : D → Bool
  | .tup ds => decide ((ds.length : Int) = n) && ds.all isRat
  | _ => false
def isWish (n : Int) : D → Bool
  | .tup [r, f] => isRow n r && isRat f
  | _ => false
def isLot (most : Int) : D → Bool
  | .tup [.int n, .tup ws] => decide (1 ≤ n) && decide (n ≤ 12) && decide ((ws.length : Int) ≤ most) && ws.all (isWish n)
  | _ => false
/-! ## stores -/
@[simp] theorem x_mt (f : Op2) (o e : ME) {env : Ev} {st : Sto} : mMt f o e env st = (o env st).bd fun x s => if (lstD x s).isSome then (e env s).bd fun y s2 => f x y s2 else .bad := _root_.id rfl
@[simp] theorem x_mt0 (f : Op1) (o : ME) {env : Ev} {st : Sto} : mMt0 f o env st = (o env st).bd fun x s => if (lstD x s).isSome then f x s else .bad := _root_.id rfl
theorem lstD_ref {s : Sto} {n : Nat} {ds : List D} (h : s[n]? = some (.lst ds)) : lstD (.ref n) s = some ds := by
  show (match s[n]? with | some (.lst ds) => some ds | _ => none) = _
  rw [h]
theorem opApp_ref {s : Sto} {n : Nat} {ds : List D} {y : D} (h : s[n]? = some (.lst ds)) (hz : ds.length < 1000000) : opApp (.ref n) y s = .ok .non (s.set n (.lst (ds ++ [y]))) := by
  show (match s[n]? with | some (.lst ds) => (if ds.length < sizeLine then R.ok D.non (s.set n (.lst (ds ++ [y]))) else .bad) | _ => .bad) = _
  rw [h]
  exact if_pos (Nat.lt_of_lt_of_le hz (by decide))
theorem opLen_ref {s : Sto} {n : Nat} {ds : List D} (h : s[n]? = some (.lst ds)) : opLen (.ref n) s = .ok (.int ds.length) s := by
  show (match lstD (.ref n) s with | some ds => R.ok (D.int ds.length) s | none => .bad) = _
  rw [lstD_ref h]
theorem opTupOf_ref {s : Sto} {n : Nat} {ds : List D} (h : s[n]? = some (.lst ds)) : opTupOf (.ref n) s = .ok (.tup ds) s := by
  show (match lstD (.ref n) s with | some ds => R.ok (D.tup ds) s | none => .bad) = _
  rw [lstD_ref h]
@[simp] theorem opTupOf_lst (ds : List D) {s : Sto} : opTupOf (.lst ds) s = .ok (.tup ds) s := _root_.id rfl
@[simp] theorem opLstOf_tup (ds : List D) {s : Sto} : opLstOf false (.tup ds) s = .ok (.lst ds) s := _root_.id rfl
@[simp] theorem opRev_tup (m : Bool) (ds : List D) {s : Sto} : opRev m (.tup ds) s = .ok (.tup ds.reverse) s := _root_.id rfl
theorem opAdd_tup (m : Bool) (a b : List D) {s : Sto} (h : a.length + b.length ≤ 10000000) : opAdd m (.tup a) (.tup b) s = .ok (.tup (a ++ b)) s := if_pos (Nat.le_trans h (by decide))
theorem ix_in {ds : List D} {i : Int} {s : Sto} (h0 : 0 ≤ i) (h1 : i < ds.length) : ∃ d, d ∈ ds ∧ opIx (.tup ds) (.int i) s = .ok d s := by
  refine ⟨ds.getD i.toNat .non, ?_, o_ixT ds i h0 h1⟩
  rw [List.getD_eq_getElem?_getD, List.getElem?_eq_getElem (by omega)]
  exact List.getElem_mem _
theorem ix_inS {ds : List D} {n : Nat} {i : Int} {s : Sto} (h : s[n]? = some (.lst ds)) (h0 : 0 ≤ i) (h1 : i < ds.length) : ∃ d, d ∈ ds ∧ opIx (.ref n) (.int i) s = .ok d s := by
  refine ⟨ds.getD i.toNat .non, ?_, o_ixS h h0 h1⟩
  rw [List.getD_eq_getElem?_getD, List.getElem?_eq_getElem (by omega)]
  exact List.getElem_mem _
/-- all that stood there stands there yet, but for the urn -/
def Kq (u : Nat) (s s' : Sto) : Prop := s.length ≤ s'.length ∧ ∀ i, i < s.length → i ≠ u → s'[i]? = s[i]?
theorem Kp.q {u : Nat} {s s' : Sto} (h : Kp u s s') : Kq u s s' := ⟨by rw [h.1]; exact Nat.le_refl _, fun i _ n => h.2 i n⟩
theorem Kq.refl (u : Nat) (s : Sto) : Kq u s s := ⟨Nat.le_refl _, fun _ _ _ => rfl⟩
theorem Kq.trans {u : Nat} {s s1 s2 : Sto} (h : Kq u s s1) (h' : Kq u s1 s2) : Kq u s s2 := ⟨Nat.le_trans h.1 h'.1, fun i a n => (h'.2 i (Nat.lt_of_lt_of_le a h.1) n).trans (h.2 i a n)⟩
theorem Kq.at_ {u n : Nat} {s s' : Sto} {o : O} (h : Kq u s s') (hn : n ≠ u) (e : s[n]? = some o) : s'[n]? = some o := by
  rw [h.2 n (List.getElem?_eq_some_iff.mp e).1 hn]
  exact e
theorem Kq.push (u : Nat) (s : Sto) (o : O) : Kq u s (s ++ [o]) := ⟨by simp, fun i h _ => List.getElem?_append_left h⟩
/-- behind the old end anything may change -/
theorem Kq.new {u n : Nat} {s s' : Sto} {o : O} (h : Kq u s s') (hn : s.length ≤ n) : Kq u s (s'.set n o) := ⟨by rw [List.length_set]; exact h.1, fun i a b => by
  rw [List.getElem?_set_ne (by omega)]
  exact h.2 i a b⟩
theorem Urn.lt {s : Sto} {u : Nat} {k : Int} (U : Urn s u k) : u < s.length := by
  obtain ⟨a, b, c, h, _⟩ := U.ex
  exact (List.getElem?_eq_some_iff.mp h).1
theorem Urn.mono {s : Sto} {u : Nat} {k k' : Int} (U : Urn s u k) (h : k ≤ k') : Urn s u k' := by
  obtain ⟨a, b, c, h1, h2, h3, h4, h5, h6⟩ := U.ex
  exact ⟨a, b, c, h1, h2, h3, h4, h5, by omega⟩
theorem Urn.push {s : Sto} {u : Nat} {k : Int} (U : Urn s u k) (o : O) : Urn (s ++ [o]) u k := by
  obtain ⟨a, b, c, h, r⟩ := U.ex
  exact ⟨a, b, c, by rw [List.getElem?_append_left U.lt]; exact h, r⟩
theorem Urn.other {s : Sto} {u n : Nat} {k : Int} (U : Urn s u k) (o : O) (hn : n ≠ u) : Urn (s.set n o) u k := by
  obtain ⟨a, b, c, h, r⟩ := U.ex
  exact ⟨a, b, c, by rw [List.getElem?_set_ne hn]; exact h, r⟩
/-- what the urn pulls out of a tuple, of a list of the store -/
theorem one_okS {F : Fn} {id : Nat} (P : PullF F id) {s : Sto} {u n : Nat} {k0 : Int} {ds : List D} (U : Urn s u k0) (hk : k0 ≤ 10 ^ 100) (hn : n ≠ u) (h : s[n]? = some (.lst ds)) (h0 : 0 < ds.length) (h1 : ds.length ≤ 1000000) :
    (runB 2 2 (mOne id F) [.ref u, .ref n] s).wp fun d s' => d ∈ ds ∧ Urn s' u (k0 + 1) ∧ Kp u s s' := by
  simp [runB, mOne, opLen_ref h]
  refine R.wp_mono (P s u k0 ds.length U hk (by omega) (by omega)) fun d s' h2 => ?_
  obtain ⟨x, rfl, x0, x1, U', K⟩ := h2
  obtain ⟨d, hd, e⟩ := ix_inS (K.q.at_ hn h) x0 x1
  rw [e]
  exact ⟨hd, U', K⟩
end Rf
set_option maxHeartbeats 400000
namespace Rf
open PySem PySem.Spec L2
open PyProof.Rows hiding St
/-! ## pairs, read -/
section
variable {env : Ev} {st s : Sto}
@[simp] theorem x_zp (ma : MA) : mZp ma env st = (ma env st).bd fun xs s => match zpD xs s with
  | some l => .ok l s
  | none => .bad := _root_.id rfl
@[simp] theorem x_en (ma : MA) : mEn ma env st = (ma env st).bd fun xs s => match enD xs s with
  | some l => .ok l s
  | none => .bad := _root_.id rfl
@[simp] theorem zp_tt (a b : List D) : zpD [.tup a, .tup b] s = some (zip2D a b, none) := _root_.id rfl
@[simp] theorem zp_ll (a b : List D) : zpD [.lst a, .lst b] s = some (zip2D a b, none) := _root_.id rfl
@[simp] theorem zp_tl (a b : List D) : zpD [.tup a, .lst b] s = some (zip2D a b, none) := _root_.id rfl
@[simp] theorem zp_lt (a b : List D) : zpD [.lst a, .tup b] s = some (zip2D a b, none) := _root_.id rfl
@[simp] theorem zp_ttt (a b c : List D) : zpD [.tup a, .tup b, .tup c] s = some (zip3D a b c, none) := _root_.id rfl
@[simp] theorem en_t (a : List D) : enD [.tup a] s = some (enumD 0 a, none) := _root_.id rfl
@[simp] theorem en_l (a : List D) : enD [.lst a] s = some (enumD 0 a, none) := _root_.id rfl
@[simp] theorem z2_n1 (b : List D) : zip2D [] b = [] := by simp [zip2D]
@[simp] theorem z2_n2 (a : List D) : zip2D a [] = [] := by simp [zip2D]
@[simp] theorem z2_cc (x y : D) (a b : List D) : zip2D (x :: a) (y :: b) = .tup [x, y] :: zip2D a b := by simp [zip2D]
@[simp] theorem e_n (n : Nat) : enumD n [] = [] := _root_.id rfl
@[simp] theorem e_c (n : Nat) (x : D) (a : List D) : enumD n (x :: a) = .tup [.int (n : Nat), x] :: enumD (n + 1) a := _root_.id rfl
theorem cut_to (ds : List D) (k : Nat) (h : k ≤ ds.length) : cutD ds none (some (k : Int)) = ds.take k := by
  unfold cutD
  rw [HT.sIx_nat, HT.sIx_none, Nat.min_eq_left h]
  simp
theorem cut_from (ds : List D) (k : Nat) (h : k ≤ ds.length) : cutD ds (some (k : Int)) none = ds.drop k := by
  unfold cutD
  rw [HT.sIx_nat, HT.sIx_none, Nat.min_eq_left h]
  rw [List.take_of_length_le (by simp)]
/-- a loop by what holds ahead of its k-th turn -/
theorem for_at {g : MG} {b : MS} {all l : List D} (I : Nat → Ev → Sto → Prop) {Q : Fl → Sto → Prop}
    (hs : ∀ k d env st, l[k]? = some d → I k env st → (g d env st).wp fun e s => (b e s).wp fun f s2 => match f with
      | .nx e2 => I (k + 1) e2 s2
      | .ct e2 => I (k + 1) e2 s2
      | .bk e2 => Q (.nx e2) s2
      | .rt d => Q (.rt d) s2)
    (he : ∀ env st, I l.length env st → Q (.nx env) st) (env : Ev) (st : Sto) (h0 : I 0 env st) : (forL g b none all l env st).wp Q := by
  refine for_wp (fun r env st => ∃ k, r = l.drop k ∧ k ≤ l.length ∧ I k env st) ?_ ?_ _ _ _ ⟨0, rfl, Nat.zero_le _, h0⟩
  · rintro d r env st ⟨k, e, hk, hI⟩
    have hl : k < l.length := by
      rcases Nat.lt_or_ge k l.length with h | h
      · exact h
      · rw [List.drop_eq_nil_of_le h] at e; cases e
    rw [List.drop_eq_getElem_cons hl] at e
    cases e
    refine R.wp_mono (hs k _ env st (List.getElem?_eq_getElem hl) hI) fun e s h1 => R.wp_mono h1 fun f s2 h2 => ?_
    cases f with
    | nx e2 => exact ⟨k + 1, rfl, hl, h2⟩
    | ct e2 => exact ⟨k + 1, rfl, hl, h2⟩
    | bk e2 => exact h2
    | rt d => exact h2
  · rintro env st ⟨k, e, hk, hI⟩
    have : k = l.length := by
      have := congrArg List.length e
      simp at this
      omega
    rw [this] at hI
    exact he env st hI
/-- over a list that is told in parts: what holds when some of it is done -/
theorem for_map {α : Type} {f : α → D} {L : List α} {g : MG} {b : MS} {all : List D} (I : List α → Ev → Sto → Prop) {Q : Fl → Sto → Prop}
    (hs : ∀ d1 a d2 env st, L = d1 ++ a :: d2 → I d1 env st → (g (f a) env st).wp fun e s => (b e s).wp fun r s2 => match r with
      | .nx e2 => I (d1 ++ [a]) e2 s2
      | .ct e2 => I (d1 ++ [a]) e2 s2
      | .bk e2 => Q (.nx e2) s2
      | .rt d => Q (.rt d) s2)
    (he : ∀ env st, I L env st → Q (.nx env) st) (env : Ev) (st : Sto) (h0 : I [] env st) : (forL g b none all (L.map f) env st).wp Q := by
  refine for_at (fun k env st => I (L.take k) env st) ?_ ?_ env st (by simpa using h0)
  · intro k d env st hk hI
    rw [List.getElem?_map] at hk
    cases e : L[k]? with
    | none => rw [e] at hk; cases hk
    | some a =>
      rw [e] at hk
      cases hk
      have hl := (List.getElem?_eq_some_iff.mp e).1
      have ea : L[k] = a := (List.getElem?_eq_some_iff.mp e).2
      have e1 : L = L.take k ++ a :: L.drop (k + 1) := by
        rw [← ea, ← List.drop_eq_getElem_cons hl, List.take_append_drop]
      have e2 : L.take (k + 1) = L.take k ++ [a] := by rw [List.take_add_one, e]; rfl
      rw [e2]
      exact hs _ a _ env st e1 hI
  · intro env st hI
    rw [List.length_map, List.take_length] at hI
    exact he env st hI
theorem enumD_at' {α : Type} {f : α → D} {L : List α} {k : Nat} {d : D} (h : (enumD 0 (L.map f))[k]? = some d) : ∃ a, L[k]? = some a ∧ d = .tup [.int (k : Nat), f a] := by
  obtain ⟨x, h1, rfl⟩ := enumD_at h
  rw [List.getElem?_map] at h1
  cases e : L[k]? with
  | none => rw [e] at h1; cases h1
  | some a => rw [e] at h1; cases h1; exact ⟨a, rfl, by rw [Nat.zero_add]⟩
theorem rgI_at {n k : Nat} {d : D} (h : (rgI 0 (n : Int))[k]? = some d) : k < n ∧ d = .int (k : Nat) := by
  have hl := (List.getElem?_eq_some_iff.mp h).1
  rw [rgI_len] at hl
  unfold rgI at h
  rw [List.getElem?_map, List.getElem?_range (by omega)] at h
  cases h
  exact ⟨by omega, by simp⟩
theorem rgI_map (n : Nat) (f : D → D) : (rgI 0 (n : Int)).map f = (List.range n).map fun i => f (.int (i : Nat)) := by
  unfold rgI
  have e0 : ((n : Int) - 0).toNat = n := by omega
  rw [e0, List.map_map]
  simp
/-- an item of a list that is told in parts -/
theorem ix_map {α : Type} (f : α → D) (L : List α) (i : Nat) (a : α) (h : L[i]? = some a) : opIx (.tup (L.map f)) (.int i) s = .ok (f a) s := by
  have hl := (List.getElem?_eq_some_iff.mp h).1
  rw [o_ixT _ _ (by omega) (by simp; omega)]
  have : (L.map f).getD i .non = f a := by
    rw [List.getD_eq_getElem?_getD, List.getElem?_map, h]
    rfl
  rw [show ((i : Int)).toNat = i by omega, this]
@[simp] theorem o_ix2 (a b c : D) (r : List D) : opIx (.tup (a :: b :: c :: r)) (.int 2) s = .ok c s := by
  rw [o_ixT _ _ (by omega) (by simp; omega)]
  rfl
@[simp] theorem o_ix3 (a b c d : D) (r : List D) : opIx (.tup (a :: b :: c :: d :: r)) (.int 3) s = .ok d s := by
  rw [o_ixT _ _ (by omega) (by simp; omega)]
  rfl
@[simp] theorem o_ix4 (a b c d e : D) (r : List D) : opIx (.tup (a :: b :: c :: d :: e :: r)) (.int 4) s = .ok e s := by
  rw [o_ixT _ _ (by omega) (by simp; omega)]
  rfl
theorem opMul_rep (x : D) (k : Nat) (h : k ≤ 1000) : opMul false (.tup [x]) (.int k) s = .ok (.tup (List.replicate k x)) s := by
  have e : (List.replicate ((k : Int)).toNat [x]).flatten = List.replicate k x := by
    rw [show ((k : Int)).toNat = k by omega]
    induction k with
    | zero => rfl
    | succ n ih => rw [List.replicate_succ, List.replicate_succ, List.flatten_cons, ih (by omega)]; rfl
  show (if [x].length ≤ 1000 ∧ (k : Int) ≤ 1000 ∧ -1000 ≤ (k : Int) then R.ok (D.tup (List.replicate ((k : Int)).toNat [x]).flatten) s else .bad) = _
  rw [if_pos ⟨by simp, by omega, by omega⟩, e]
theorem opAdd_lst (a b : List D) (h : a.length + b.length ≤ 10000000) : opAdd false (.lst a) (.lst b) s = .ok (.lst (a ++ b)) s := if_pos (Nat.le_trans h (by decide))
/-- the store has grown -/
def Gr (s s' : Sto) : Prop := s.length ≤ s'.length ∧ ∀ i, i < s.length → s'[i]? = s[i]?
theorem Gr.refl (s : Sto) : Gr s s := ⟨Nat.le_refl _, fun _ _ => rfl⟩
theorem Gr.trans {s s1 s2 : Sto} (h : Gr s s1) (h' : Gr s1 s2) : Gr s s2 := ⟨Nat.le_trans h.1 h'.1, fun i a => (h'.2 i (Nat.lt_of_lt_of_le a h.1)).trans (h.2 i a)⟩
theorem Gr.push (s : Sto) (o : O) : Gr s (s ++ [o]) := ⟨by simp, fun i h => List.getElem?_append_left h⟩
theorem Gr.set {s s' : Sto} (h : Gr s s') {n : Nat} (hn : s.length ≤ n) (o : O) : Gr s (s'.set n o) := ⟨by rw [List.length_set]; exact h.1, fun i a => by
  rw [List.getElem?_set_ne (by omega)]
  exact h.2 i a⟩
theorem Gr.urn {s s' : Sto} (h : Gr s s') {u : Nat} {k : Int} (U : Urn s u k) : Urn s' u k := ⟨by
  obtain ⟨a, b, c, e, r⟩ := U.ex
  exact ⟨a, b, c, by rw [h.2 u U.lt]; exact e, r⟩⟩
theorem opAdd_refL {n : Nat} {a b : List D} (h : s[n]? = some (.lst a)) (hl : a.length + b.length ≤ 10000000) : opAdd true (.ref n) (.lst b) s = .ok (.ref s.length) (s ++ [.lst (a ++ b)]) := by
  show (match lstD (.ref n) s, lstD (.lst b) s with
    | some a, some b => if a.length + b.length ≤ sizeLine then newL true (a ++ b) s else .bad
    | _, _ => .bad) = _
  rw [lstD_ref h]
  exact if_pos (Nat.le_trans hl (by decide))
theorem opAdd_refF {n : Nat} {a b : List D} (h : s[n]? = some (.lst a)) (hl : a.length + b.length ≤ 10000000) : opAdd false (.ref n) (.lst b) s = .ok (.lst (a ++ b)) s := by
  show (match lstD (.ref n) s, lstD (.lst b) s with
    | some a, some b => if a.length + b.length ≤ sizeLine then newL false (a ++ b) s else .bad
    | _, _ => .bad) = _
  rw [lstD_ref h]
  exact if_pos (Nat.le_trans hl (by decide))
@[simp] theorem opTupOf_tup (ds : List D) : opTupOf (.tup ds) s = .ok (.tup ds) s := _root_.id rfl
theorem forL_cons (g : MG) (b : MS) (all : List D) (d : D) (r : List D) : forL g b none all (d :: r) env st = (g d env st).bd fun e s => (b e s).bd fun f s2 => match f with
  | .nx e => forL g b none all r e s2
  | .ct e => forL g b none all r e s2
  | .bk e => .ok (.nx e) s2
  | .rt d => .ok (.rt d) s2 := rfl
theorem forL_nil (g : MG) (b : MS) (all : List D) : forL g b none all [] env st = .ok (.nx env) st := rfl
theorem app_lst (s : Sto) (L : List D) : lstD (.ref s.length) (s ++ [.lst L]) = some L := lstD_ref (app_at s _)
theorem app_app (s : Sto) (L : List D) (y : D) (h : L.length < 1000000) : opApp (.ref s.length) y (s ++ [.lst L]) = .ok .non (s ++ [.lst (L ++ [y])]) := by
  rw [opApp_ref (app_at s _) h]
  simp
theorem wp_eq {α : Type} {r : R α} {d : α} (h : r.wp fun d' s' => d' = d ∧ s' = s) : r = .ok d s := by
  cases r with
  | ok a s' => obtain ⟨rfl, rfl⟩ := (show a = d ∧ s' = s from h); rfl
  | ex => exact h.elim
  | bad => exact h.elim
theorem wp_seq {a b : MS} {Q : Fl → Sto → Prop} (h : (a env st).wp fun f s => match f with
  | .nx e => (b e s).wp Q
  | f => Q f s) : (mSeq a b env st).wp Q := by
  rw [x_seq, wp_bd']
  refine R.wp_mono h fun f s q => ?_
  cases f with
  | nx e => exact q
  | rt d => exact q
  | bk e => exact q
  | ct e => exact q
end
theorem lc_mapA {α : Type} {vs : List Nat} {g : MG} {me : ME} {all : List D} {env : Ev} {st : Sto} {h : α → D} {f : α → D} : ∀ (l : List α) (acc : List D), (∀ a ∈ l, ∃ e, g (h a) (wipeE env vs) st = .ok e st ∧ me e st = .ok (f a) st) → lcL vs g mYes me none all env (l.map h) st acc = .ok (acc ++ l.map f) st
  | [], acc, _ => by simp [lcL, gstB]
  | d :: r, acc, q => by
    obtain ⟨e, h1, h2⟩ := q d (.head _)
    have ih := lc_mapA (all := all) r (acc ++ [f d]) fun d' hd' => q d' (.tail _ hd')
    rw [List.map_cons]
    unfold lcL
    rw [if_pos (show gstB none all st = true from rfl), h1]
    simp [h2, ih]
theorem o_allA {α : Type} {f : α → Bool} {l : List α} {st : Sto} : opBls (fun bs => .bl (bs.all id)) [.lst (l.map fun a => .bl (f a))] st = .ok (.bl (l.all f)) st := by
  have e : (l.map fun a => D.bl (f a)) = (l.map f).map D.bl := by simp
  show (match bls (l.map fun a => D.bl (f a)) with | some bs => R.ok (D.bl (bs.all id)) st | none => .bad) = _
  rw [e, bls_map]
  simp [List.all_map]
theorem o_anyA {α : Type} {f : α → Bool} {l : List α} {st : Sto} : opBls (fun bs => .bl (bs.any id)) [.lst (l.map fun a => .bl (f a))] st = .ok (.bl (l.any f)) st := by
  have e : (l.map fun a => D.bl (f a)) = (l.map f).map D.bl := by simp
  show (match bls (l.map fun a => D.bl (f a)) with | some bs => R.ok (D.bl (bs.any id)) st | none => .bad) = _
  rw [e, bls_map]
  simp [List.any_map]
/-! ## fractions in lowest terms -/
abbrev Q := Int × Int
def qd (p : Q) : D := .tup [.int p.1, .int p.2]
def qn (a b : Int) : Q := (a / ((Nat.gcd a.natAbs b.natAbs : Nat) : Int), b / ((Nat.gcd a.natAbs b.natAbs : Nat) : Int))
def gd (p : Q) : Prop := 0 < p.2 ∧ Nat.gcd p.1.natAbs p.2.natAbs = 1
def padd (p q : Q) : Q := qn (p.1 * q.2 + q.1 * p.2) (p.2 * q.2)
def pmul (p q : Q) : Q := qn (p.1 * q.1) (p.2 * q.2)
def ple (p q : Q) : Bool := decide (p.1 * q.2 ≤ q.1 * p.2)
def bq (A : Nat) (p : Q) : Prop := 0 < p.2 ∧ p.1.natAbs ≤ A ∧ p.2.natAbs ≤ A
theorem qn_gd {a b : Int} (hb : 0 < b) : gd (qn a b) := by
  have hg : 0 < Nat.gcd a.natAbs b.natAbs := Nat.gcd_pos_of_pos_right _ (by omega)
  have da : ((Nat.gcd a.natAbs b.natAbs : Nat) : Int) ∣ a := Int.ofNat_dvd_left.mpr (Nat.gcd_dvd_left _ _)
  have db : ((Nat.gcd a.natAbs b.natAbs : Nat) : Int) ∣ b := Int.ofNat_dvd_left.mpr (Nat.gcd_dvd_right _ _)
  refine ⟨Int.ediv_pos_of_pos_of_dvd hb (by omega) db, ?_⟩
  show Nat.gcd (a / _).natAbs (b / _).natAbs = 1
  rw [Int.natAbs_ediv_of_dvd da, Int.natAbs_ediv_of_dvd db, Int.natAbs_natCast]
  exact Nat.gcd_div_gcd_div_gcd_of_pos_right (by omega)
theorem qn_id {p : Q} (h : gd p) : qn p.1 p.2 = p := by
  unfold qn
  rw [h.2]
  simp
theorem gd_zero {p : Q} (h : gd p) (h0 : p.1 = 0) : p = (0, 1) := by
  obtain ⟨a, b⟩ := p
  obtain ⟨h1, h2⟩ := h
  simp at h0 h1 h2
  subst h0
  simp at h2
  have : b = 1 := by omega
  rw [this]
theorem qn_zero {b : Int} (hb : 0 < b) : qn 0 b = (0, 1) := gd_zero (qn_gd hb) (by simp [qn])
theorem padd_z {p : Q} (h : gd p) : padd p (0, 1) = p := by
  have : padd p (0, 1) = qn p.1 p.2 := by simp [padd]
  rw [this, qn_id h]
theorem z_padd {p : Q} (h : gd p) : padd (0, 1) p = p := by
  have : padd (0, 1) p = qn p.1 p.2 := by simp [padd]
  rw [this, qn_id h]
theorem pmul_z {p q : Q} (hp : 0 < p.2) (hq : 0 < q.2) (h : p.1 = 0 ∨ q.1 = 0) : pmul p q = (0, 1) := by
  have : pmul p q = qn 0 (p.2 * q.2) := by
    rcases h with h | h <;> simp [pmul, h]
  rw [this, qn_zero (Int.mul_pos hp hq)]
theorem one_pmul {p : Q} (h : gd p) : pmul (1, 1) p = p := by
  have : pmul (1, 1) p = qn p.1 p.2 := by simp [pmul]
  rw [this, qn_id h]
def pneg (p : Q) : Q := (-p.1, p.2)
theorem pneg_gd {p : Q} (h : gd p) : gd (pneg p) := ⟨h.1, by simpa [pneg] using h.2⟩
theorem none_pmul {p : Q} (h : gd p) : pmul (-1, 1) p = pneg p := by
  have : pmul (-1, 1) p = qn (pneg p).1 (pneg p).2 := by simp [pmul, pneg]
  rw [this, qn_id (pneg_gd h)]
theorem padd_gd {p q : Q} (hp : 0 < p.2) (hq : 0 < q.2) : gd (padd p q) := qn_gd (Int.mul_pos hp hq)
theorem pmul_gd {p q : Q} (hp : 0 < p.2) (hq : 0 < q.2) : gd (pmul p q) := qn_gd (Int.mul_pos hp hq)
theorem div_le (a b : Int) (hb : 0 < b) (A : Nat) (h : a.natAbs ≤ A) : (a / ((Nat.gcd a.natAbs b.natAbs : Nat) : Int)).natAbs ≤ A := by
  have da : ((Nat.gcd a.natAbs b.natAbs : Nat) : Int) ∣ a := Int.ofNat_dvd_left.mpr (Nat.gcd_dvd_left _ _)
  rw [Int.natAbs_ediv_of_dvd da]
  exact Nat.le_trans (Nat.div_le_self _ _) h
theorem qn_bq {a b : Int} {A : Nat} (hb : 0 < b) (h1 : a.natAbs ≤ A) (h2 : b.natAbs ≤ A) : bq A (qn a b) := by
  refine ⟨(qn_gd hb).1, div_le a b hb A h1, ?_⟩
  show (b / _).natAbs ≤ A
  have db : ((Nat.gcd a.natAbs b.natAbs : Nat) : Int) ∣ b := Int.ofNat_dvd_left.mpr (Nat.gcd_dvd_right _ _)
  rw [Int.natAbs_ediv_of_dvd db]
  exact Nat.le_trans (Nat.div_le_self _ _) h2
theorem mul_b {A B : Nat} {p q : Q} (hp : bq A p) (hq : bq B q) : (p.1 * q.1).natAbs ≤ A * B ∧ (p.2 * q.2).natAbs ≤ A * B ∧ (p.1 * q.2).natAbs ≤ A * B ∧ (q.1 * p.2).natAbs ≤ A * B ∧ 0 < p.2 * q.2 := by
  refine ⟨?_, ?_, ?_, ?_, Int.mul_pos hp.1 hq.1⟩
  · rw [Int.natAbs_mul]; exact Nat.mul_le_mul hp.2.1 hq.2.1
  · rw [Int.natAbs_mul]; exact Nat.mul_le_mul hp.2.2 hq.2.2
  · rw [Int.natAbs_mul]; exact Nat.mul_le_mul hp.2.1 hq.2.2
  · rw [Int.natAbs_mul, Nat.mul_comm]; exact Nat.mul_le_mul hp.2.2 hq.2.1
theorem add_b {A B : Nat} {p q : Q} (hp : bq A p) (hq : bq B q) : (p.1 * q.2 + q.1 * p.2).natAbs ≤ 2 * (A * B) ∧ (p.2 * q.2).natAbs ≤ 2 * (A * B) ∧ 0 < p.2 * q.2 := by
  obtain ⟨h1, h2, h3, h4, h5⟩ := mul_b hp hq
  have := Int.natAbs_add_le (p.1 * q.2) (q.1 * p.2)
  exact ⟨by omega, by omega, h5⟩
theorem pmul_bq {A B : Nat} {p q : Q} (hp : bq A p) (hq : bq B q) : bq (A * B) (pmul p q) := by
  obtain ⟨h1, h2, h3, h4, h5⟩ := mul_b hp hq
  exact qn_bq h5 h1 h2
theorem padd_bq {A B : Nat} {p q : Q} (hp : bq A p) (hq : bq B q) : bq (2 * (A * B)) (padd p q) := by
  obtain ⟨h1, h2, h3⟩ := add_b hp hq
  exact qn_bq h3 h1 h2
theorem bq_mono {A B : Nat} (h : A ≤ B) {p : Q} (q : bq A p) : bq B p := ⟨q.1, Nat.le_trans q.2.1 h, Nat.le_trans q.2.2 h⟩
/-- the sum of products, one after the other -/
def dotA : Q → List Q → List Q → Q
  | acc, x :: xs, y :: ys => dotA (padd acc (pmul x y)) xs ys
  | acc, _, _ => acc
def dotQ (xs ys : List Q) : Q := dotA (0, 1) xs ys
theorem dotA_gd : ∀ (xs ys : List Q) (acc : Q), gd acc → (∀ x ∈ xs, 0 < x.2) → (∀ y ∈ ys, 0 < y.2) → gd (dotA acc xs ys)
  | [], _, acc, h, _, _ => h
  | _ :: _, [], acc, h, _, _ => h
  | x :: xs, y :: ys, acc, h, h1, h2 => dotA_gd xs ys _ (padd_gd h.1 (pmul_gd (h1 x (.head _)) (h2 y (.head _))).1) (fun x hx => h1 x (.tail _ hx)) (fun y hy => h2 y (.tail _ hy))
theorem dotQ_gd {xs ys : List Q} (h1 : ∀ x ∈ xs, 0 < x.2) (h2 : ∀ y ∈ ys, 0 < y.2) : gd (dotQ xs ys) := dotA_gd xs ys _ ⟨by decide, by decide⟩ h1 h2
theorem dotA_zeros : ∀ (k : Nat) (r ys : List Q) (acc : Q), gd acc → (∀ y ∈ ys, 0 < y.2) → k ≤ ys.length → dotA acc (List.replicate k (0, 1) ++ r) ys = dotA acc r (ys.drop k)
  | 0, r, ys, acc, _, _, _ => by simp
  | k + 1, r, [], acc, _, _, h => by simp at h
  | k + 1, r, y :: ys, acc, hg, hy, h => by
    rw [List.replicate_succ, List.cons_append, List.drop_succ_cons]
    show dotA (padd acc (pmul (0, 1) y)) _ ys = _
    rw [pmul_z (p := (0, 1)) (by decide) (hy y (.head _)) (.inl rfl), padd_z hg]
    exact dotA_zeros k r ys acc hg (fun y h => hy y (.tail _ h)) (by simpa using h)
/-- a row with one number at place i -/
def unitQ (u : Q) (n i : Nat) : List Q := List.replicate i (0, 1) ++ u :: List.replicate (n - 1 - i) (0, 1)
theorem dot_unit {u : Q} {n i : Nat} {ys : List Q} {y : Q} (hu : 0 < u.2) (hy : ∀ y ∈ ys, 0 < y.2) (hn : ys.length = n) (h : ys[i]? = some y) : dotQ (unitQ u n i) ys = pmul u y := by
  have hi := (List.getElem?_eq_some_iff.mp h).1
  unfold dotQ unitQ
  rw [dotA_zeros i _ ys _ ⟨by decide, by decide⟩ hy (by omega)]
  have e : ys.drop i = y :: ys.drop (i + 1) := by
    rw [List.drop_eq_getElem_cons hi, (List.getElem?_eq_some_iff.mp h).2]
  rw [e]
  show dotA (padd (0, 1) (pmul u y)) _ _ = _
  have hy0 : 0 < y.2 := hy y (List.mem_of_getElem? h)
  rw [z_padd (pmul_gd hu hy0)]
  have := dotA_zeros (n - 1 - i) [] (ys.drop (i + 1)) (pmul u y) (pmul_gd hu hy0) (fun y h => hy y (List.mem_of_mem_drop h)) (by simp; omega)
  rw [List.append_nil] at this
  rw [this]
  rfl
theorem dotA_bq : ∀ (xs ys : List Q) (acc : Q) (P c k : Nat), bq P acc → (∀ x ∈ xs, ∀ y ∈ ys, bq c (pmul x y)) → ys.length ≤ k → 1 ≤ c → bq (P * (2 * c) ^ k) (dotA acc xs ys)
  | [], _, acc, P, c, k, h, _, _, hc => bq_mono (Nat.le_mul_of_pos_right _ (Nat.pow_pos (by omega))) h
  | _ :: _, [], acc, P, c, k, h, _, _, hc => bq_mono (Nat.le_mul_of_pos_right _ (Nat.pow_pos (by omega))) h
  | x :: xs, y :: ys, acc, P, c, 0, _, _, hk, _ => by simp at hk
  | x :: xs, y :: ys, acc, P, c, k + 1, h, h1, hk, hc => by
    have q := padd_bq h (h1 x (.head _) y (.head _))
    have ih := dotA_bq xs ys _ (2 * (P * c)) c k q (fun x hx y hy => h1 x (.tail _ hx) y (.tail _ hy)) (by simpa using hk) hc
    have e : 2 * (P * c) * (2 * c) ^ k = P * (2 * c) ^ (k + 1) := by
      rw [Nat.pow_succ, Nat.mul_comm ((2 * c) ^ k), ← Nat.mul_assoc, ← Nat.mul_assoc, ← Nat.mul_assoc, Nat.mul_comm P 2]
    rw [e] at ih
    exact ih
/-! ## rows, wishes, lots as data -/
theorem listQ {α : Type} {f : α → D} {P : α → Prop} : ∀ {ds : List D}, (∀ x ∈ ds, ∃ q, x = f q ∧ P q) → ∃ qs : List α, ds = qs.map f ∧ ∀ q ∈ qs, P q
  | [], _ => ⟨[], rfl, nofun⟩
  | d :: ds, h => by
    obtain ⟨q, rfl, hq⟩ := h d (.head _)
    obtain ⟨qs, rfl, hqs⟩ := listQ fun x hx => h x (.tail _ hx)
    exact ⟨q :: qs, rfl, List.forall_mem_cons.mpr ⟨hq, hqs⟩⟩
abbrev rd (r : List Q) : D := .tup (r.map qd)
def wd (w : List Q × Q) : D := .tup [rd w.1, qd w.2]
def ld (n : Int) (ws : List (List Q × Q)) : D := .tup [.int n, .tup (ws.map wd)]
theorem isRat_qd {p : Q} (h : gd p) : isRat (qd p) = true := by
  simp [isRat, qd, h.1, h.2]
theorem isRow_rd {n : Int} {r : List Q} (hn : (r.length : Int) = n) (h : ∀ x ∈ r, gd x) : isRow n (rd r) = true := by
  simp [isRow, hn, rd]
  intro a b hx
  exact isRat_qd (h _ hx)
theorem isWish_wd {n : Int} {w : List Q × Q} (hn : (w.1.length : Int) = n) (h : ∀ x ∈ w.1, gd x) (h2 : gd w.2) : isWish n (wd w) = true := by
  show (isRow n (rd w.1) && isRat (qd w.2)) = true
  rw [isRow_rd hn h, isRat_qd h2]
  rfl
def okW (n : Int) (w : List Q × Q) : Prop := (w.1.length : Int) = n ∧ (∀ x ∈ w.1, gd x) ∧ gd w.2
theorem isLot_ld {n m : Int} {ws : List (List Q × Q)} (h0 : 1 ≤ n ∧ n ≤ 12) (hl : (ws.length : Int) ≤ m) (h : ∀ w ∈ ws, okW n w) : isLot m (ld n ws) = true := by
  have e : (ws.map wd).all (isWish n) = true := by
    rw [List.all_map, List.all_eq_true]
    exact fun w hw => isWish_wd (h w hw).1 (h w hw).2.1 (h w hw).2.2
  simp only [isLot, ld, h0.1, h0.2, List.length_map, hl, e]
  rfl
/-! ## data that may be shown -/
/-- numbers, truths and None in tuples, so wide at most at each depth -/
def shn : List Nat → D → Prop
  | [], d => (∃ b, d = .bl b) ∨ d = .non ∨ ∃ i, d = .int i ∧ -(10 ^ 60) ≤ i ∧ i ≤ 10 ^ 60
  | w :: r, d => ((∃ b, d = .bl b) ∨ d = .non ∨ ∃ i, d = .int i ∧ -(10 ^ 60) ≤ i ∧ i ≤ 10 ^ 60) ∨ ∃ ds, d = .tup ds ∧ ds.length ≤ w ∧ ∀ x ∈ ds, shn r x
def wN : List Nat → Nat
  | [] => 62
  | w :: r => w * (wN r + 2) + 3 + 62
theorem shn_leaf {d : D} (h : (∃ b, d = .bl b) ∨ d = .non ∨ ∃ i, d = .int i ∧ -(10 ^ 60) ≤ i ∧ i ≤ 10 ^ 60) : ∃ p, toP d = some p ∧ p.showable = true ∧ p.hasDict = false ∧ wtP p ≤ 62 ∧ p.depth = 0 := by
  rcases h with ⟨b, rfl⟩ | rfl | ⟨i, rfl, h1, h2⟩
  · exact ⟨.bool b, by simp [toP], by simp [PyData.showable], by simp [PyData.hasDict], by simp [wtP], by simp [PyData.depth]⟩
  · exact ⟨.none, by simp [toP], by simp [PyData.showable], by simp [PyData.hasDict], by simp [wtP], by simp [PyData.depth]⟩
  · exact ⟨.int i, by simp [toP], shwI (by omega) (by omega), by simp [PyData.hasDict], by simp only [wtP]; rw [if_pos (by omega)]; exact Nat.le_refl _, by simp [PyData.depth]⟩
theorem shn_all {W m : Nat} : ∀ {ds : List D}, (∀ x ∈ ds, ∃ p, toP x = some p ∧ p.showable = true ∧ p.hasDict = false ∧ wtP p ≤ W ∧ p.depth ≤ m) →
    ∃ ps, toPs ds = some ps ∧ PyData.showableAll ps = true ∧ PyData.hasDictAll ps = false ∧ wtPs ps ≤ ds.length * (W + 2) ∧ PyData.depthAll ps ≤ m
  | [], _ => ⟨[], by simp [toPs], by simp [PyData.showableAll], by simp [PyData.hasDictAll], by simp [wtPs], by simp [PyData.depthAll]⟩
  | d :: ds, h => by
    obtain ⟨p, a1, a2, a3, a4, a5⟩ := h d (.head _)
    obtain ⟨ps, b1, b2, b3, b4, b5⟩ := shn_all fun x hx => h x (.tail _ hx)
    refine ⟨p :: ps, by simp [toPs, a1, b1], by simp [PyData.showableAll, a2, b2], by simp [PyData.hasDictAll, a3, b3], ?_, by simp [PyData.depthAll]; omega⟩
    simp only [wtPs, List.length_cons, Nat.succ_mul]
    omega
theorem shn_toP : ∀ {l : List Nat} {d : D}, shn l d → ∃ p, toP d = some p ∧ p.showable = true ∧ p.hasDict = false ∧ wtP p ≤ wN l ∧ p.depth ≤ l.length
  | [], d, h => by
    obtain ⟨p, a1, a2, a3, a4, a5⟩ := shn_leaf h
    exact ⟨p, a1, a2, a3, a4, by omega⟩
  | w :: r, d, h => by
    rcases h with h | ⟨ds, rfl, h1, h2⟩
    · obtain ⟨p, a1, a2, a3, a4, a5⟩ := shn_leaf h
      exact ⟨p, a1, a2, a3, by simp only [wN]; omega, by omega⟩
    · obtain ⟨ps, b1, b2, b3, b4, b5⟩ := shn_all fun x hx => shn_toP (h2 x hx)
      refine ⟨.tuple ps, by simp [toP, b1], by simp [PyData.showable, b2], by simp [PyData.hasDict, b3], ?_, by simp only [PyData.depth, List.length_cons]; omega⟩
      simp only [wtP, wN]
      have := Nat.mul_le_mul_right (wN r + 2) h1
      omega
theorem shn_repr {l : List Nat} {d : D} (h : shn l d) (hw : wN l ≤ 16000000) (hl : l.length ≤ 60) : ∃ x, ∀ s, opRepr [d] s = .ok (.str x) s := by
  obtain ⟨p, a1, a2, a3, a4, a5⟩ := shn_toP h
  refine ⟨p.shown, fun s => ?_⟩
  have e : toPd d s = some p := by
    cases d <;> first | exact a1 | (exfalso; simp [toP] at a1)
  show (match toPd d s with | some p => if shownB p then R.ok (D.str p.shown) s else .bad | none => .bad) = _
  rw [e]
  show (if shownB p = true then R.ok (D.str p.shown) s else .bad) = _
  rw [if_pos (shwB_ok _)]
  unfold shwB
  simp only [Bool.and_eq_true, Bool.not_eq_true', decide_eq_true_eq]
  exact ⟨⟨⟨a2, a3⟩, by omega⟩, by omega⟩
/-! ## two rows compared -/
def qp (p : Q) : PyData := .tuple [.int p.1, .int p.2]
theorem toPs_q : ∀ r : List Q, toPs (r.map qd) = some (r.map qp)
  | [] => by simp [toPs]
  | p :: r => by simp [toPs, toP, qd, qp, toPs_q r]
theorem eqv_q (p q : Q) : PyData.eqv (qp p) (qp q) = decide (p = q) := by
  obtain ⟨a, b⟩ := p
  obtain ⟨c, d⟩ := q
  have e : ∀ i j : Int, PyData.eqv (.int i) (.int j) = decide (i = j) := fun i j => by
    simp [PyData.eqv]
    rfl
  simp [qp, PyData.eqv, PyData.eqvAll, e]
  rfl
theorem eqvAll_q : ∀ a b : List Q, PyData.eqvAll (a.map qp) (b.map qp) = decide (a = b)
  | [], [] => by simp [PyData.eqvAll]
  | [], _ :: _ => by simp [PyData.eqvAll]
  | _ :: _, [] => by simp [PyData.eqvAll]
  | x :: a, y :: b => by simp [PyData.eqvAll, eqv_q, eqvAll_q a b]
theorem lay_q : ∀ a : List Q, PyData.canLayAll0 (a.map qp) = true ∧ PyData.depthAll (a.map qp) ≤ 1
  | [] => by simp [PyData.canLayAll0, PyData.depthAll]
  | x :: a => by
    obtain ⟨h1, h2⟩ := lay_q a
    refine ⟨by simp [PyData.canLayAll0, PyData.canLay0, qp, h1], ?_⟩
    have e : (qp x).depth = 1 := by simp [qp, PyData.depth, PyData.depthAll]
    simp only [List.map_cons, PyData.depthAll, e]
    omega
theorem eq_rd {s : Sto} (a b : List Q) : opEq false (rd a) (rd b) s = .ok (.bl (decide (a = b))) s := by
  cases b with
  | nil =>
    show R.ok (D.bl (a.map qd).isEmpty) s = _
    cases a <;> simp
  | cons y b =>
    show opEqP false (rd a) (rd (y :: b)) s = _
    have e1 : toPd (rd a) s = some (.tuple (a.map qp)) := by
      show toP (.tup (a.map qd)) = _
      simp [toP, toPs_q]
    have e2 : toPd (rd (y :: b)) s = some (.tuple ((y :: b).map qp)) := by
      show toP (.tup ((y :: b).map qd)) = _
      rw [toP, toPs_q]
    obtain ⟨l1, d1⟩ := lay_q a
    obtain ⟨l2, d2⟩ := lay_q (y :: b)
    show (match toPd (rd a) s, toPd (rd (y :: b)) s with
      | some p, some q => if p.canLay0 && q.canLay0 && decide (min p.depth q.depth ≤ 64) then R.ok (D.bl (PyData.eqv p q)) s else .bad
      | _, _ => .bad) = _
    rw [e1, e2]
    have d3 : (PyData.tuple (a.map qp)).depth ≤ 64 := by simp only [PyData.depth]; omega
    have c1 : (PyData.tuple (a.map qp)).canLay0 = true := by simpa [PyData.canLay0] using l1
    have c2 : (PyData.tuple ((y :: b).map qp)).canLay0 = true := by
      show PyData.canLayAll0 ((y :: b).map qp) = true
      exact l2
    show (if (PyData.tuple (a.map qp)).canLay0 && (PyData.tuple ((y :: b).map qp)).canLay0 && decide (min (PyData.tuple (a.map qp)).depth (PyData.tuple ((y :: b).map qp)).depth ≤ 64) then R.ok (D.bl (PyData.eqv (.tuple (a.map qp)) (.tuple ((y :: b).map qp)))) s else .bad) = _
    rw [if_pos]
    · have : PyData.eqv (.tuple (a.map qp)) (.tuple ((y :: b).map qp)) = PyData.eqvAll (a.map qp) ((y :: b).map qp) := by simp only [PyData.eqv]
      rw [this, eqvAll_q]
    · rw [c1, c2]
      simp only [Bool.true_and, decide_eq_true_eq]
      omega
/-- a list of fractions in the store still stands -/
theorem beqs_q : ∀ r : List Q, D.beqs (r.map qd) (r.map qd) = true
  | [] => by simp [D.beqs]
  | p :: r => by simp [D.beqs, D.beq, qd, beqs_q r]
theorem atB_q {s : Sto} {n : Nat} {r : List Q} (h : s[n]? = some (.lst (r.map qd))) : atB n (r.map qd) s = true := by
  unfold atB
  rw [h]
  exact beqs_q r
theorem isRat_inv {d : D} (h : isRat d = true) : ∃ p : Q, d = qd p ∧ gd p := by
  unfold isRat at h
  split at h
  · rename_i a b
    rw [Bool.and_eq_true, decide_eq_true_eq, decide_eq_true_eq] at h
    exact ⟨(a, b), rfl, h.1, h.2⟩
  · cases h
theorem isRow_inv {n : Int} {d : D} (h : isRow n d = true) : ∃ r : List Q, d = rd r ∧ (r.length : Int) = n ∧ ∀ x ∈ r, gd x := by
  unfold isRow at h
  split at h
  · rename_i ds
    rw [Bool.and_eq_true, decide_eq_true_eq, List.all_eq_true] at h
    obtain ⟨r, rfl, hr⟩ := listQ (f := qd) (P := gd) fun x hx => isRat_inv (h.2 x hx)
    exact ⟨r, rfl, by simpa using h.1, hr⟩
  · cases h
theorem pl_bq {L : Nat} {A : Nat} {p : Q} (h : pl L (A : Int) (qd p)) (hp : 0 < p.2) : bq A p := by
  have h2 := (pl_tup.mp h).2
  have a1 := pl_int.mp (h2 _ (.head _))
  have a2 := pl_int.mp (h2 _ (.tail _ (.head _)))
  exact ⟨hp, by omega, by omega⟩
/-- it may be shown, its text no longer -/
def shw (W m : Nat) (d : D) : Prop := ∃ p, toP d = some p ∧ p.showable = true ∧ p.hasDict = false ∧ wtP p ≤ W ∧ p.depth ≤ m
theorem shn_shw {l : List Nat} {d : D} (h : shn l d) : shw (wN l) l.length d := shn_toP h
theorem shw_all {W m n : Nat} {ds : List D} (hn : ds.length ≤ n) (h : ∀ x ∈ ds, shw W m x) : shw (n * (W + 2) + 3) (m + 1) (.tup ds) := by
  obtain ⟨ps, b1, b2, b3, b4, b5⟩ := shn_all h
  refine ⟨.tuple ps, by simp [toP, b1], by simp [PyData.showable, b2], by simp [PyData.hasDict, b3], ?_, by simp only [PyData.depth]; omega⟩
  simp only [wtP]
  have := Nat.mul_le_mul_right (W + 2) hn
  omega
theorem shw_two {W1 W2 m : Nat} {a b : D} (h1 : shw W1 m a) (h2 : shw W2 m b) : shw (W1 + W2 + 7) (m + 1) (.tup [a, b]) := by
  obtain ⟨p, a1, a2, a3, a4, a5⟩ := h1
  obtain ⟨q, b1, b2, b3, b4, b5⟩ := h2
  exact ⟨.tuple [p, q], by simp [toP, toPs, a1, b1], by simp [PyData.showable, PyData.showableAll, a2, b2], by simp [PyData.hasDict, PyData.hasDictAll, a3, b3], by simp only [wtP, wtPs]; omega, by simp only [PyData.depth, PyData.depthAll]; omega⟩
theorem shw_three {W1 W2 W3 m : Nat} {a b c : D} (h1 : shw W1 m a) (h2 : shw W2 m b) (h3 : shw W3 m c) : shw (W1 + W2 + W3 + 9) (m + 1) (.tup [a, b, c]) := by
  obtain ⟨p, a1, a2, a3, a4, a5⟩ := h1
  obtain ⟨q, b1, b2, b3, b4, b5⟩ := h2
  obtain ⟨r, c1, c2, c3, c4, c5⟩ := h3
  exact ⟨.tuple [p, q, r], by simp [toP, toPs, a1, b1, c1], by simp [PyData.showable, PyData.showableAll, a2, b2, c2], by simp [PyData.hasDict, PyData.hasDictAll, a3, b3, c3], by simp only [wtP, wtPs]; omega, by simp only [PyData.depth, PyData.depthAll]; omega⟩
theorem shw_mono {W W' m m' : Nat} {d : D} (h : shw W m d) (hW : W ≤ W') (hm : m ≤ m') : shw W' m' d := by
  obtain ⟨p, a1, a2, a3, a4, a5⟩ := h
  exact ⟨p, a1, a2, a3, Nat.le_trans a4 hW, Nat.le_trans a5 hm⟩
theorem shw_repr {W m : Nat} {d : D} (h : shw W m d) (hw : W ≤ 16000000) (hl : m ≤ 60) : ∃ x, ∀ s, opRepr [d] s = .ok (.str x) s := by
  obtain ⟨p, a1, a2, a3, a4, a5⟩ := h
  refine ⟨p.shown, fun s => ?_⟩
  have e : toPd d s = some p := by
    cases d <;> first | exact a1 | (exfalso; simp [toP] at a1)
  show (match toPd d s with | some p => if shownB p then R.ok (D.str p.shown) s else .bad | none => .bad) = _
  rw [e]
  show (if shownB p = true then R.ok (D.str p.shown) s else .bad) = _
  rw [if_pos (shwB_ok _)]
  unfold shwB
  simp only [Bool.and_eq_true, Bool.not_eq_true', decide_eq_true_eq]
  exact ⟨⟨⟨a2, a3⟩, by omega⟩, by omega⟩
theorem shn_num {l : List Nat} {i : Int} (h1 : -(10 ^ 60) ≤ i) (h2 : i ≤ 10 ^ 60) : shn l (.int i) := by
  cases l with
  | nil => exact .inr (.inr ⟨i, rfl, h1, h2⟩)
  | cons => exact .inl (.inr (.inr ⟨i, rfl, h1, h2⟩))
theorem shn_bl {l : List Nat} {b : Bool} : shn l (.bl b) := by
  cases l with
  | nil => exact .inl ⟨b, rfl⟩
  | cons => exact .inl (.inl ⟨b, rfl⟩)
theorem shn_non {l : List Nat} : shn l .non := by
  cases l with
  | nil => exact .inr (.inl rfl)
  | cons => exact .inl (.inr (.inl rfl))
theorem shn_tup {w : Nat} {r : List Nat} {ds : List D} (h : ds.length ≤ w) (h2 : ∀ x ∈ ds, shn r x) : shn (w :: r) (.tup ds) := .inr ⟨ds, rfl, h, h2⟩
theorem bq_int {A : Nat} {p : Q} (h : bq A p) (hA : A ≤ 10 ^ 60) : (-(10 ^ 60) ≤ p.1 ∧ p.1 ≤ 10 ^ 60) ∧ -(10 ^ 60) ≤ p.2 ∧ p.2 ≤ 10 ^ 60 := by
  obtain ⟨h0, h1, h2⟩ := h
  refine ⟨⟨by omega, by omega⟩, by omega, by omega⟩
theorem shn_qd {A : Nat} {r : List Nat} {p : Q} (h : bq A p) (hA : A ≤ 10 ^ 60) : shn (2 :: r) (qd p) := by
  obtain ⟨⟨h1, h2⟩, h3, h4⟩ := bq_int h hA
  refine shn_tup (by simp) fun x hx => ?_
  simp at hx
  rcases hx with rfl | rfl
  · exact shn_num h1 h2
  · exact shn_num h3 h4
theorem shn_rd {A w : Nat} {r : List Nat} {q : List Q} (hl : q.length ≤ w) (h : ∀ p ∈ q, bq A p) (hA : A ≤ 10 ^ 60) : shn (w :: 2 :: r) (rd q) := shn_tup (by simpa using hl) fun x hx => by
  obtain ⟨p, hp, rfl⟩ := List.mem_map.mp hx
  exact shn_qd (h p hp) hA
theorem shn_wd {A w : Nat} {r : List Nat} {q : List Q × Q} (hl : q.1.length ≤ w) (h : ∀ p ∈ q.1, bq A p) (h2 : bq A q.2) (hA : A ≤ 10 ^ 60) (hw : 2 ≤ w) : shn (2 :: w :: 2 :: r) (wd q) := shn_tup (by simp) fun x hx => by
  simp at hx
  rcases hx with rfl | rfl
  · exact shn_rd hl h hA
  · obtain ⟨⟨h1, h2⟩, h3, h4⟩ := bq_int h2 hA
    refine shn_tup (by simp; omega) fun x hx => ?_
    simp at hx
    rcases hx with rfl | rfl
    · exact shn_num h1 h2
    · exact shn_num h3 h4
theorem shn_ld {A w m : Nat} {r : List Nat} {n : Int} {ws : List (List Q × Q)} (hn : 0 ≤ n ∧ n ≤ 1000) (hl : ws.length ≤ m) (h : ∀ q ∈ ws, q.1.length ≤ w ∧ (∀ p ∈ q.1, bq A p) ∧ bq A q.2) (hA : A ≤ 10 ^ 60) (hw : 2 ≤ w) : shn (2 :: m :: 2 :: w :: 2 :: r) (ld n ws) := shn_tup (by simp) fun x hx => by
  simp at hx
  rcases hx with rfl | rfl
  · exact shn_num (by omega) (by omega)
  · refine shn_tup (by simpa using hl) fun x hx => ?_
    obtain ⟨p, hp, rfl⟩ := List.mem_map.mp hx
    exact shn_wd (h p hp).1 (h p hp).2.1 (h p hp).2.2 hA hw
/-- the same datum shown twice -/
@[simp] theorem o_neSame (x : Str) {s : Sto} : opEq true (.str x) (.str x) s = .ok (.bl false) s := by
  show R.ok (D.bl (!decide (x = x))) s = _
  rw [decide_eq_true rfl]
  rfl
end Rf
set_option maxHeartbeats 400000
namespace Rf
open PySem PySem.Spec L2
open PyProof.Rows hiding St
/-! ## the urn of the laws about plants -/
def mPull2 (c1 c2 c3 c4 c5 c6 : Int) : MS := (mSeq (mIfS (mTest (mOp2 (opCmp fun i j => decide (j < i)) (mOp2 opIx (mVar 0) (mCst (.int 0))) (mCst (.int 0))))
    (mSeq (mAsg (gTp 2 (gCons (gSub (mVar 0) (mCst (.int 0))) (gCons (gNm 3) gNil))) (mOpN opDm (mCons (mOp2 opIx (mVar 0) (mCst (.int 0))) (mCons (mVar 1) mNil))))
    (mRet (mVar 3)))
    mPass)
    (mSeq (mAsg (gSub (mVar 0) (mCst (.int 2))) (mOp2 (opAdd false) (mOp2 opIx (mVar 0) (mCst (.int 2))) (mCst (.int 1))))
    (mSeq (mAsg (gNm 2) (mOp2 opMod (mOpN opInt (mCons (mOp2 (opAdd false) (mOp2 opIx (mVar 0) (mCst (.int 1))) (mOp2 (opMul false) (mCst (.int c1)) (mOp2 opIx (mVar 0) (mCst (.int 2))))) mNil)) (mCst (.int c2))))
    (mSeq (mAsg (gSub (mVar 0) (mCst (.int 1))) (mOp2 opMod (mOpN opInt (mCons (mOp2 (opAdd false) (mOp2 (opMul false) (mVar 2) (mOp2 (opAdd false) (mOp2 opMod (mOpN opInt (mCons (mVar 2) mNil)) (mCst (.int c3))) (mCst (.int c4)))) (mOp2 (opMul false) (mCst (.int c5)) (mOp2 opIx (mVar 0) (mCst (.int 2))))) mNil)) (mCst (.int c2))))
    (mRet (mOp2 opMod (mOpN opInt (mCons (mOp2 opDiv (mOp2 opIx (mVar 0) (mCst (.int 1))) (mCst (.int c6))) mNil)) (mVar 1)))))))
theorem pull2_ok {c1 c2 c3 c4 c5 c6 : Int} (q1 : 0 < c1 ∧ c1 < 4294967296) (q2 : 0 < c2 ∧ c2 < 4294967296) (q3 : 0 < c3 ∧ c3 < 4294967296) (q4 : 0 ≤ c4 ∧ c4 < 4294967296) (q5 : 0 ≤ c5 ∧ c5 < 4294967296) (q6 : 0 < c6 ∧ c6 < 4294967296) {s : Sto} {u : Nat} {k0 t : Int} (U : Urn s u k0) (hk : k0 ≤ 10 ^ 100) (ht : 0 < t) (ht2 : t ≤ 10 ^ 300) :
    (runB 2 4 (mPull2 c1 c2 c3 c4 c5 c6) [.ref u, .int t] s).wp fun d s' => ∃ x, d = .int x ∧ 0 ≤ x ∧ x < t ∧ Urn s' u (k0 + 1) ∧ Kp u s s' := by
  obtain ⟨a, seed, k, hu, ha, h1, h2, h3, h4⟩ := U.ex
  obtain ⟨q1, q1'⟩ := q1
  obtain ⟨q2, q2'⟩ := q2
  obtain ⟨q3, q3'⟩ := q3
  obtain ⟨q4, q4'⟩ := q4
  obtain ⟨q5, q5'⟩ := q5
  obtain ⟨q6, q6'⟩ := q6
  have hs := set_at hu
  have ix1 := fun (ds : List D) (i : Int) => o_ixS (i := i) (hs (.lst ds))
  have st1 := fun (ds : List D) (i : Int) (d : D) => setIx_S (i := i) (d := d) (hs (.lst ds))
  by_cases h : 0 < a
  · simp (disch := first | omega | (simp; done) | (simp; omega)) [runB, mPull2, o_ixS hu, h, setIx_S hu]
    exact ⟨Int.emod_nonneg _ (by omega), Int.emod_lt_of_pos _ ht, ⟨_, _, _, hs _, Int.ediv_nonneg ha (by omega), h1, h2, h3, by omega⟩, Kp.set u s _⟩
  · have m1 : mulB c1 (k + 1) = true := mulB_of _ _ (by omega) (by omega) (by omega) (by omega)
    have m2 : mulB c5 (k + 1) = true := mulB_of _ _ (by omega) (by omega) (by omega) (by omega)
    have p1 := Int.emod_nonneg (seed + c1 * (k + 1)) (show c2 ≠ 0 by omega)
    have p2 := Int.emod_lt_of_pos (seed + c1 * (k + 1)) (show 0 < c2 by omega)
    have p3 := Int.emod_nonneg ((seed + c1 * (k + 1)) % c2) (show c3 ≠ 0 by omega)
    have p4 := Int.emod_lt_of_pos ((seed + c1 * (k + 1)) % c2) (show 0 < c3 by omega)
    have m3 : mulB ((seed + c1 * (k + 1)) % c2) ((seed + c1 * (k + 1)) % c2 % c3 + c4) = true := mulB_of _ _ (by omega) (by omega) (by omega) (by omega)
    have p5 := Int.emod_nonneg ((seed + c1 * (k + 1)) % c2 * ((seed + c1 * (k + 1)) % c2 % c3 + c4) + c5 * (k + 1)) (show c2 ≠ 0 by omega)
    have p6 := Int.emod_lt_of_pos ((seed + c1 * (k + 1)) % c2 * ((seed + c1 * (k + 1)) % c2 % c3 + c4) + c5 * (k + 1)) (show 0 < c2 by omega)
    simp (disch := first | omega | (simp; done) | (simp; omega)) [runB, mPull2, o_ixS hu, h, setIx_S hu, ix1, st1, o_mul' m1, o_mul' m2, o_mul' m3]
    exact ⟨Int.emod_nonneg _ (by omega), Int.emod_lt_of_pos _ ht, ⟨_, _, _, hs _, by omega, p5, by omega, by omega, by omega⟩, Kp.set u s _⟩
def mUrn2 (c1 c2 c3 c4 c5 c6 c7 c8 c9 c10 e1 e2 : Int) : MS := (mSeq (mAsg (gNm 2) (mOp2 (opAdd false) (mCst (.int c1)) (mOp2 (opMul false) (mCst (.int c2)) (mVar 1))))
    (mSeq (mFor (gNm 3) (mIt (mSl false (mVar 0) none (some (mCst (.int c3)))))
    (mAsg (gNm 2) (mOp2 opMod (mOpN opInt (mCons (mOp2 (opAdd false) (mOp2 (opAdd false) (mOp2 (opMul false) (mVar 2) (mCst (.int c4))) (mOp2 opMod (mOpN opInt (mCons (mVar 3) mNil)) (mCst (.int c5)))) (mCst (.int c6))) mNil)) (mCst (.int c7)))))
    (mSeq (mAsg (gNm 4) (mIf (mTest (mOp2 (opCmp fun i j => decide (i < j)) (mVar 1) (mOpN (un1 opLen) (mCons (mVar 0) mNil)))) (mOpN opInt (mCons (mOp2 opIx (mVar 0) (mVar 1)) mNil)) (mCst (.int 0))))
    (mSeq (mAsg (gNm 2) (mOp2 opMod (mOpN opInt (mCons (mOp2 (opAdd false) (mOp2 (opAdd false) (mOp2 (opMul false) (mVar 2) (mCst (.int c8))) (mOp2 (opMul false) (mOp2 opMod (mOpN opInt (mCons (mVar 4) mNil)) (mCst (.int c5))) (mCst (.int c9)))) (mCst (.int c10))) mNil)) (mCst (.int c7))))
    (mRet (mOpN (opLst true) (mCons (mIf (mOrT (mTest (mOp2 (opCmp fun i j => decide (i < j)) (mVar 4) (mCst (.int 0)))) (mTest (mOp2 (opCmp fun i j => decide (j ≤ i)) (mVar 4) (mOp2 opPow (mCst (.int e1)) (mCst (.int e2)))))) (mOpN opAbs (mCons (mVar 4) mNil)) (mCst (.int 0))) (mCons (mVar 2) (mCons (mCst (.int 0)) mNil)))))))))
theorem urn2_ok {c1 c2 c3 c4 c5 c6 c7 c8 c9 c10 e1 e2 : Int} (q1 : 0 ≤ c1 ∧ c1 < 4294967296) (q2 : 0 ≤ c2 ∧ c2 < 4294967296) (q4 : 0 < c4 ∧ c4 < 4294967296) (q5 : 0 < c5 ∧ c5 < 4294967296) (q7 : 0 < c7 ∧ c7 < 4294967296) (q8 : 0 < c8 ∧ c8 < 4294967296) (q9 : 0 ≤ c9 ∧ c9 < 4294967296) (qe : 0 ≤ e1 ∧ e1 < 100000) (qe2 : 0 ≤ e2 ∧ e2 ≤ 100)
    {s : Sto} {ns : List Int} {t : Nat} (ht : t ≤ 1000000) :
    (runB 2 5 (mUrn2 c1 c2 c3 c4 c5 c6 c7 c8 c9 c10 e1 e2) [.ro (ns.map .int), .int t] s).wp fun d s' => d = .ref s.length ∧ Urn s' s.length 0 ∧ ∃ x, s' = s ++ [x] := by
  obtain ⟨q1, q1'⟩ := q1
  obtain ⟨q2, q2'⟩ := q2
  obtain ⟨q4, q4'⟩ := q4
  obtain ⟨q5, q5'⟩ := q5
  obtain ⟨q7, q7'⟩ := q7
  obtain ⟨q8, q8'⟩ := q8
  obtain ⟨q9, q9'⟩ := q9
  obtain ⟨qe, qe'⟩ := qe
  obtain ⟨qf, qf'⟩ := qe2
  have m1 : mulB c2 t = true := mulB_of _ _ (by omega) (by omega) (by omega) (by omega)
  have p0 : 0 ≤ c2 * (t : Int) := Int.mul_nonneg q2 (by omega)
  have p1 : c2 * (t : Int) ≤ 4294967296 * 1000000 := Int.mul_le_mul (by omega) (by omega) (by omega) (by omega)
  show (R.bd (mSeq _ _ [some (.ro (ns.map .int)), some (.int t), none, none, none] s) _).wp _
  rw [wp_bd']
  refine wp_seq (R.wp_mono (Q := fun f s1 => f = .nx [some (.ro (ns.map .int)), some (.int t), some (.int (c1 + c2 * t)), none, none] ∧ s1 = s) ?_ ?_)
  · simp [o_mul' m1]
  rintro _ s ⟨rfl, rfl⟩
  refine wp_seq (R.wp_mono (Q := fun f s1 => ∃ (seed : Int) (z : Option D), f = .nx [some (.ro (ns.map .int)), some (.int t), some (.int seed), z, none] ∧ (0 ≤ seed ∧ seed ≤ 4294967296 * 1000001) ∧ s1 = s) ?_ ?_)
  · rw [x_for]
    simp only [x_it, x_sl, x_varS, x_var0, x_partN, x_partS, x_cst, R.bd_ok, o_slR, n_f, i_lst]
    refine for_wp (fun l env st => st = s ∧ (∀ d ∈ l, ∃ i, d = .int i) ∧ ∃ (seed : Int) (z : Option D), env = [some (.ro (ns.map .int)), some (.int t), some (.int seed), z, none] ∧ 0 ≤ seed ∧ seed ≤ 4294967296 * 1000001) ?_ ?_ _ _ _ ⟨rfl, ?_, _, _, rfl, by omega, by omega⟩
    · rintro d r env st ⟨rfl, hi, seed, z, rfl, h1, h2⟩
      obtain ⟨i, rfl⟩ := hi _ (.head _)
      have m2 : mulB seed c4 = true := mulB_of _ _ (by omega) (by omega) (by omega) (by omega)
      simp (disch := omega) [o_mul' m2]
      refine ⟨fun d hd => hi d (.tail _ hd), Int.emod_nonneg _ (by omega), ?_⟩
      have := Int.emod_lt_of_pos (seed * c4 + i % c5 + c6) q7
      omega
    · rintro env st ⟨rfl, -, seed, z, rfl, h1, h2⟩
      exact ⟨seed, z, rfl, ⟨h1, h2⟩, rfl⟩
    · intro d hd
      obtain ⟨i, -, e⟩ := List.mem_map.mp (cutD_mem hd)
      exact ⟨i, e.symm⟩
  rintro _ s ⟨seed, z, rfl, ⟨h1, h2⟩, rfl⟩
  refine wp_seq (R.wp_mono (Q := fun f s1 => ∃ o : Int, f = .nx [some (.ro (ns.map .int)), some (.int t), some (.int seed), z, some (.int o)] ∧ s1 = s) ?_ ?_)
  · by_cases h : t < ns.length
    · have e : opIx (.ro (ns.map .int)) (.int t) s = .ok (.int (ns.getD t 0)) s := by
        rw [o_ixR _ _ (by omega) (by simpa using h)]
        simp [h]
      simp [h, e]
    · simp [h]
  rintro _ s ⟨o, rfl, rfl⟩
  have m2 : mulB seed c8 = true := mulB_of _ _ (by omega) (by omega) (by omega) (by omega)
  have p2 := Int.emod_nonneg o (show c5 ≠ 0 by omega)
  have p3 := Int.emod_lt_of_pos o q5
  have m3 : mulB (o % c5) c9 = true := mulB_of _ _ (by omega) (by omega) (by omega) (by omega)
  have g1 := Int.emod_nonneg (seed * c8 + o % c5 * c9 + c10) (show c7 ≠ 0 by omega)
  have g2 := Int.emod_lt_of_pos (seed * c8 + o % c5 * c9 + c10) q7
  have cs : ∀ b : Int, (if o < 0 then R.ok true s else R.ok (decide (b ≤ o)) s) = R.ok (decide (o < 0) || decide (b ≤ o)) s := fun b => by
    by_cases h : o < 0 <;> simp [h]
  simp (disch := omega) [o_mul' m2, o_mul' m3, cs]
  split
  · simp
    refine ⟨⟨_, _, _, app_at _ _, ?_, g1, by omega, by omega, by omega⟩⟩
    split <;> omega
  · simp
    exact ⟨⟨_, _, _, app_at _ _, by omega, g1, by omega, by omega, by omega⟩⟩
/-! ### Euclid by a for that breaks -/
theorem gcd_for {g : MG} {b : MS} {all : List D} {env : Option D → Nat → Nat → Ev} {st : Sto} (hg : ∀ d z x y, g d (env z x y) st = .ok (env (some d) x y) st)
    (h0 : ∀ z x, b (env z x 0) st = .ok (.bk (env z x 0)) st) (hm : ∀ z x y, 0 < y → b (env z x y) st = .ok (.nx (env z y (x % y))) st) :
    ∀ (k : Nat) (l : List D) (z : Option D) (x y : Nat), y < 2 ^ k → 2 * k + 1 ≤ l.length → ∃ z', forL g b none all l (env z x y) st = .ok (.nx (env z' (Nat.gcd x y) 0)) st := by
  have stop : ∀ (d : D) (l : List D) (z : Option D) (x : Nat), ∃ z', forL g b none all (d :: l) (env z x 0) st = .ok (.nx (env z' (Nat.gcd x 0) 0)) st := fun d l z x => ⟨some d, by
    rw [forL_cons, hg, R.bd_ok, h0]
    simp⟩
  have go : ∀ (d : D) (l : List D) (z : Option D) (x y : Nat), 0 < y → forL g b none all (d :: l) (env z x y) st = forL g b none all l (env (some d) y (x % y)) st := fun d l z x y h => by
    rw [forL_cons, hg, R.bd_ok, hm _ _ _ h]
    rfl
  have gr : ∀ a b : Nat, Nat.gcd a b = Nat.gcd b (a % b) := fun a b => by rw [Nat.gcd_comm a b, Nat.gcd_rec b a, Nat.gcd_comm]
  intro k
  induction k with
  | zero =>
    intro l z x y hy hl
    have : y = 0 := by simpa using hy
    subst this
    cases l with
    | nil => simp at hl
    | cons d l => exact stop d l z x
  | succ k ih =>
    intro l z x y hy hl
    match l, hl with
    | [], hl => simp at hl
    | [_], hl => simp at hl
    | d1 :: d2 :: l, hl =>
      by_cases c0 : y = 0
      · subst c0
        exact stop d1 _ z x
      · rw [go d1 _ z x y (by omega), gr x y]
        by_cases c1 : x % y = 0
        · rw [c1]
          exact stop d2 _ _ y
        · rw [go d2 _ _ y (x % y) (by omega), gr y (x % y)]
          have := mod_half (a := x) (b := y) (by omega) (by omega)
          exact ih l _ _ _ (by rw [Nat.pow_succ] at hy; omega) (by simp at hl; omega)
end Rf
set_option maxHeartbeats 400000
namespace Rf
open PySem PySem.Spec L2
open PyProof.Rows hiding St
/-- a while-loop: what holds ahead of each turn, by what is left at most -/
theorem whl_wp {c : MT} {b : MS} {Q : Fl → Sto → Prop} (I : Nat → Ev → Sto → Prop)
    (hs : ∀ k env st, I k env st → (c env st).wp fun t s => if t then (b env s).wp (fun f s2 => match f with
      | .nx e => ∃ k', k' < k ∧ I k' e s2
      | .ct e => ∃ k', k' < k ∧ I k' e s2
      | .bk e => Q (.nx e) s2
      | .rt d => Q (.rt d) s2) else Q (.nx env) s) : ∀ (n k : Nat) (env : Ev) (st : Sto), k < n → I k env st → (whl c b n env st).wp Q
  | 0, _, _, _, h, _ => absurd h (Nat.not_lt_zero _)
  | n + 1, k, env, st, h, hI => by
    show ((c env st).bd fun k s => if k then (b env s).bd fun f s2 => match f with
      | .nx e => whl c b n e s2
      | .ct e => whl c b n e s2
      | .bk e => .ok (.nx e) s2
      | .rt d => .ok (.rt d) s2
    else .ok (.nx env) s).wp Q
    rw [wp_bd']
    refine R.wp_mono (hs k env st hI) fun t s h1 => ?_
    cases t with
    | false => exact h1
    | true =>
      rw [if_pos rfl] at h1 ⊢
      rw [wp_bd']
      refine R.wp_mono h1 fun f s2 h2 => ?_
      cases f with
      | nx e =>
        obtain ⟨k', hk, h3⟩ := h2
        exact whl_wp I hs n k' e s2 (by omega) h3
      | ct e =>
        obtain ⟨k', hk, h3⟩ := h2
        exact whl_wp I hs n k' e s2 (by omega) h3
      | bk e => exact h2
      | rt d => exact h2
@[simp] theorem ofStr_inj {a b : String} : PySem.Str.ofString a = PySem.Str.ofString b ↔ a = b := by
  constructor
  · intro h
    rw [PySem.Str.ofString_eq_toList, PySem.Str.ofString_eq_toList] at h
    have h1 : (a.toList.map Char.toNat).toArray = (b.toList.map Char.toNat).toArray := congrArg PySem.Str.cps h
    have h2 : a.toList.map Char.toNat = b.toList.map Char.toNat := by simpa using h1
    have h3 : a.toList = b.toList := List.map_inj_right (fun x y e => Char.ext (UInt32.toNat_inj.mp e)) |>.mp h2
    exact String.toList_inj.mp h3
  · intro h
    rw [h]
section
variable {s : Sto}
/-- a list of numbers of the store, read -/
theorem ix_ints {r : Nat} {cs : List Int} (h : s[r]? = some (.lst (cs.map .int))) {b : Nat} (hb : b < cs.length) : opIx (.ref r) (.int b) s = .ok (.int (cs.getD b 0)) s := by
  rw [o_ixS h (by omega) (by simpa using hb)]
  congr 1
  simp [List.getD_eq_getElem?_getD, List.getElem?_eq_getElem hb]
/-- the last of a tuple -/
theorem ix_last {ds : List D} {d : D} : opIx (.tup (ds ++ [d])) (.int (-1)) s = .ok d s := by
  have e : atI (ds ++ [d]) (-1) = some d := by
    unfold atI ixN
    simp
    rw [if_pos (by omega)]
    have : ((-1 : Int) + (↑ds.length + 1)).toNat = ds.length := by omega
    simp [this]
  show (match atI (ds ++ [d]) (-1) with | some d => R.ok d s | none => .bad) = _
  rw [e]
end
end Rf
set_option maxHeartbeats 400000
set_option exponentiation.threshold 9000
namespace Rf
open PySem PySem.Spec L2
open PyProof.Rows hiding St
/-! ## great numbers -/
/-- no number may be greater -/
@[irreducible] def BG : Nat := 2 ^ 8000
theorem le_bg {n : Nat} (h : n ≤ 2 ^ 8000) : n ≤ BG := by unfold BG; exact h
theorem bg_60 : 10 ^ 60 ≤ BG := le_bg (by decide +kernel)
theorem bg_lt {n : Nat} (h : n ≤ BG) : n < 2 ^ 8001 := by
  unfold BG at h
  exact Nat.lt_of_le_of_lt h (by decide +kernel)
theorem bg_log {n : Nat} (h : n ≤ BG) : n.log2 ≤ 8000 := by
  by_cases e : n = 0
  · rw [e]; decide
  · exact Nat.le_of_lt_succ ((Nat.log2_lt e).mpr (bg_lt h))
section
variable {s : Sto}
theorem o_mulW (m : Bool) (i j : Int) (h1 : i.natAbs ≤ BG) (h2 : j.natAbs ≤ BG) : opMul m (.int i) (.int j) s = .ok (.int (i * j)) s := by
  refine o_mul' ?_
  unfold mulB
  have a := bg_log h1
  have b := bg_log h2
  exact decide_eq_true (by omega)
theorem o_divW (i j : Int) (h : 0 < j) (h2 : j.natAbs ≤ BG) : opDiv (.int i) (.int j) s = .ok (.int (i / j)) s := by
  show (if divB i j = true then R.ok (D.int (i.fdiv j)) s else .bad) = _
  rw [if_pos, fdiv_pos h]
  unfold divB
  have a := bg_log h2
  simp only [Bool.and_eq_true, decide_eq_true_eq]
  exact ⟨by omega, by omega⟩
theorem o_divN (i j : Int) (h : 0 < j) (h2 : j.natAbs ≤ BG) : opDiv (.int i) (.int (-j)) s = .ok (.int ((-i) / j)) s := by
  show (if divB i (-j) = true then R.ok (D.int (i.fdiv (-j))) s else .bad) = _
  rw [if_pos]
  · have : i.fdiv (-j) = (-i) / j := by
      have e1 : (-(-i)).fdiv (-j) = (-i).fdiv j := Int.neg_fdiv_neg _ _
      rw [Int.neg_neg] at e1
      rw [e1, fdiv_pos h]
    rw [this]
  unfold divB
  have a := bg_log h2
  simp only [Bool.and_eq_true, decide_eq_true_eq]
  exact ⟨by omega, by rw [Int.natAbs_neg]; omega⟩
end
/-! ## the fractions are the rationals -/
def nq (x : Rat) : Q := (x.num, (x.den : Int))
def rq (x : Rat) : D := qd (nq x)
def vl (p : Q) : Rat := (p.1 : Rat) / (p.2 : Rat)
theorem nq_gd (x : Rat) : gd (nq x) := ⟨by have := x.den_pos; show (0 : Int) < (x.den : Int); omega, by
  show Nat.gcd x.num.natAbs ((x.den : Int)).natAbs = 1
  rw [Int.natAbs_natCast]
  exact x.reduced⟩
theorem nq_inj {x y : Rat} : nq x = nq y ↔ x = y := by
  constructor
  · intro h
    have h1 : x.num = y.num := congrArg Prod.fst h
    have h2 : (x.den : Int) = y.den := congrArg Prod.snd h
    exact Rat.ext h1 (by omega)
  · intro h; rw [h]
theorem qn_nq {a b : Int} (hb : 0 < b) : qn a b = nq ((a : Rat) / (b : Rat)) := by
  have e : (a : Rat) / (b : Rat) = Rat.normalize a b.toNat (by omega) := by
    rw [Rat.normalize_eq_mkRat, Rat.mkRat_eq_div]
    have : ((b.toNat : Nat) : Int) = b := by omega
    have e2 : (b : Rat) = ((b.toNat : Nat) : Rat) := by
      conv => lhs; rw [← this]
      exact Rat.intCast_natCast _
    rw [e2]
  have eb : b.natAbs = b.toNat := by omega
  have ec : ((b.toNat : Nat) : Int) = b := by omega
  rw [e, Rat.normalize_eq]
  unfold qn nq
  rw [eb]
  simp [ec]
theorem x_eq (x : Rat) : ((x.num : Rat) / ((x.den : Int) : Rat)) = x := by
  have h := nq_gd x
  have h1 := qn_id h
  rw [qn_nq h.1] at h1
  exact nq_inj.mp h1
theorem gd_nq {p : Q} (h : gd p) : p = nq (vl p) := by
  have h1 := qn_id h
  rw [qn_nq h.1] at h1
  exact h1.symm
theorem nq_div {x y : Rat} {a b : Int} (hb : 0 < b) (h : (a : Rat) = y * b) (hx : x = y) : qn a b = nq x := by
  rw [qn_nq hb, hx]
  congr 1
  have : (b : Rat) ≠ 0 := by
    have := Rat.intCast_eq_zero_iff (a := b)
    intro z
    rw [this] at z
    omega
  grind
theorem den_ne (x : Rat) : (((x.den : Int)) : Rat) ≠ 0 := by
  intro z
  rw [Rat.intCast_eq_zero_iff] at z
  have := x.den_pos
  omega
theorem num_eq (x : Rat) : (x.num : Rat) = x * ((x.den : Int) : Rat) := by
  have := x_eq x
  have := den_ne x
  grind
theorem den_p (x : Rat) : (0 : Int) < (x.den : Int) := by have := x.den_pos; omega
theorem nq_add (x y : Rat) : padd (nq x) (nq y) = nq (x + y) := by
  refine nq_div (Int.mul_pos (den_p x) (den_p y)) ?_ rfl
  have a := num_eq x
  have b := num_eq y
  simp only [nq, Rat.intCast_add, Rat.intCast_mul]
  grind
theorem nq_mul (x y : Rat) : pmul (nq x) (nq y) = nq (x * y) := by
  refine nq_div (Int.mul_pos (den_p x) (den_p y)) ?_ rfl
  have a := num_eq x
  have b := num_eq y
  simp only [nq, Rat.intCast_mul]
  grind
theorem nq_sub (x y : Rat) : qn (x.num * (y.den : Int) - y.num * (x.den : Int)) ((x.den : Int) * (y.den : Int)) = nq (x - y) := by
  refine nq_div (Int.mul_pos (den_p x) (den_p y)) ?_ rfl
  have a := num_eq x
  have b := num_eq y
  simp only [Rat.intCast_sub, Rat.intCast_mul]
  grind
theorem num_ne {x : Rat} (h : x ≠ 0) : (x.num : Rat) ≠ 0 := by
  rw [num_eq]
  have := den_ne x
  grind
theorem nq_overP {x y : Rat} (h : 0 < y.num) : qn (x.num * (y.den : Int)) ((x.den : Int) * y.num) = nq (x / y) := by
  refine nq_div (Int.mul_pos (den_p x) h) ?_ rfl
  have a := num_eq x
  have b := num_eq y
  have hy : y ≠ 0 := fun z => by rw [z] at h; exact absurd h (by decide)
  simp only [Rat.intCast_mul]
  rw [b]
  rw [a]
  grind
theorem nq_overN {x y : Rat} (h : y.num < 0) : qn (-(x.num * (y.den : Int))) (-((x.den : Int) * y.num)) = nq (x / y) := by
  refine nq_div ?_ ?_ rfl
  · have := Int.mul_pos (den_p x) (show 0 < -y.num by omega)
    rw [Int.mul_neg] at this
    exact this
  have a := num_eq x
  have b := num_eq y
  have hy : y ≠ 0 := fun z => by rw [z] at h; exact absurd h (by decide)
  simp only [Rat.intCast_mul, Rat.intCast_neg]
  rw [b]
  rw [a]
  grind
theorem nq_neg (x : Rat) : pneg (nq x) = nq (-x) := by
  show ((-x.num : Int), (x.den : Int)) = ((-x).num, ((-x).den : Int))
  rw [Rat.neg_num, Rat.neg_den]
theorem nq_le (x y : Rat) : ple (nq x) (nq y) = decide (x ≤ y) := by
  unfold ple
  congr 1
  exact propext (Rat.le_iff x y).symm
theorem num_pos {x : Rat} : 0 < x.num ↔ 0 < x := by
  have := Rat.num_nonneg (q := x)
  have := Rat.num_eq_zero (q := x)
  grind
theorem num_neg {x : Rat} : x.num < 0 ↔ x < 0 := by
  have := Rat.num_nonneg (q := x)
  grind
theorem num_nn {x : Rat} : 0 ≤ x.num ↔ 0 ≤ x := Rat.num_nonneg
theorem num_z {x : Rat} : x.num = 0 ↔ x = 0 := Rat.num_eq_zero
@[simp] theorem nq_0 : nq 0 = (0, 1) := rfl
@[simp] theorem nq_1 : nq 1 = (1, 1) := rfl
/-! ### how great -/
def bz (A : Nat) (x : Rat) : Prop := x.num.natAbs ≤ A ∧ x.den ≤ A
theorem bz_bq {A : Nat} {x : Rat} : bz A x ↔ bq A (nq x) := by
  constructor
  · exact fun h => ⟨den_p x, h.1, by show ((x.den : Int)).natAbs ≤ A; rw [Int.natAbs_natCast]; exact h.2⟩
  · exact fun h => ⟨h.2.1, by have := h.2.2; simp only [nq, Int.natAbs_natCast] at this; exact this⟩
theorem bz_mono {A B : Nat} (h : A ≤ B) {x : Rat} (q : bz A x) : bz B x := ⟨Nat.le_trans q.1 h, Nat.le_trans q.2 h⟩
theorem bz_add {A B : Nat} {x y : Rat} (hx : bz A x) (hy : bz B y) : bz (2 * (A * B)) (x + y) := bz_bq.mpr (by rw [← nq_add]; exact padd_bq (bz_bq.mp hx) (bz_bq.mp hy))
theorem bz_mul {A B : Nat} {x y : Rat} (hx : bz A x) (hy : bz B y) : bz (A * B) (x * y) := bz_bq.mpr (by rw [← nq_mul]; exact pmul_bq (bz_bq.mp hx) (bz_bq.mp hy))
theorem bz_neg {A : Nat} {x : Rat} (hx : bz A x) : bz A (-x) := ⟨by rw [Rat.neg_num, Int.natAbs_neg]; exact hx.1, by rw [Rat.neg_den]; exact hx.2⟩
theorem bz_sub {A B : Nat} {x y : Rat} (hx : bz A x) (hy : bz B y) : bz (2 * (A * B)) (x - y) := by
  rw [Rat.sub_eq_add_neg]
  exact bz_add hx (bz_neg hy)
theorem bz_inv {A : Nat} {x : Rat} (hx : bz A x) (h : x ≠ 0) : bz A (1 / x) := by
  refine bz_bq.mpr ?_
  have hn : x.num ≠ 0 := fun z => h (num_z.mp z)
  rcases Int.lt_or_gt_of_ne hn with q | q
  · have := nq_overN (x := 1) q
    rw [← this]
    refine qn_bq ?_ ?_ ?_
    · show 0 < -(((1 : Rat).den : Int) * x.num)
      rw [show (1 : Rat).den = 1 from rfl]; omega
    · rw [show (1 : Rat).num = 1 from rfl, Int.natAbs_neg]; simpa using hx.2
    · rw [show (1 : Rat).den = 1 from rfl, Int.natAbs_neg]; simpa using hx.1
  · have := nq_overP (x := 1) q
    rw [← this]
    refine qn_bq ?_ ?_ ?_
    · rw [show (1 : Rat).den = 1 from rfl]; omega
    · rw [show (1 : Rat).num = 1 from rfl]; simpa using hx.2
    · rw [show (1 : Rat).den = 1 from rfl]; simpa using hx.1
theorem bz_div {A B : Nat} {x y : Rat} (hx : bz A x) (hy : bz B y) (h : y ≠ 0) : bz (A * B) (x / y) := by
  have e : x / y = x * (1 / y) := by grind
  rw [e]
  exact bz_mul hx (bz_inv hy h)
end Rf
set_option maxHeartbeats 400000
set_option exponentiation.threshold 9000
namespace Rf
open PySem PySem.Spec L2
open PyProof.Rows hiding St
/-! ## loops over what is told in parts, a list of the store among it -/
theorem lc_fl {α : Type} {vs : List Nat} {g : MG} {mt : MT} {me : ME} {o : Option Gk} {all : List D} {env : Ev} {st : Sto} (p : α → Bool) (h f : α → D) (hg : gstB o all st = true) :
    ∀ (l : List α) (acc : List D), (∀ a ∈ l, ∃ e, g (h a) (wipeE env vs) st = .ok e st ∧ mt e st = .ok (p a) st ∧ (p a = true → me e st = .ok (f a) st)) → lcL vs g mt me o all env (l.map h) st acc = .ok (acc ++ (l.filter p).map f) st
  | [], acc, _ => by simp [lcL, hg]
  | a :: r, acc, q => by
    obtain ⟨e, h1, h2, h3⟩ := q a (.head _)
    rw [List.map_cons]
    unfold lcL
    rw [if_pos hg, h1]
    cases hp : p a with
    | true =>
      have ih := lc_fl (all := all) p h f hg r (acc ++ [f a]) fun d' hd' => q d' (.tail _ hd')
      rw [hp] at h2
      simp [h2, h3 hp, ih, List.filter_cons, hp]
    | false =>
      have ih := lc_fl (all := all) p h f hg r acc fun d' hd' => q d' (.tail _ hd')
      rw [hp] at h2
      simp [h2, ih, List.filter_cons, hp]
theorem for_atG {g : MG} {b : MS} {o : Option Gk} {all : List D} (I : Nat → Ev → Sto → Prop) {Q : Fl → Sto → Prop} (hg : ∀ k env st, I k env st → gstB o all st = true) : ∀ (l : List D) (k : Nat) (env : Ev) (st : Sto),
    (∀ i d env st, l[i]? = some d → I (k + i) env st → (g d env st).wp fun e s => (b e s).wp fun f s2 => match f with
      | .nx e2 => I (k + i + 1) e2 s2
      | .ct e2 => I (k + i + 1) e2 s2
      | .bk e2 => Q (.nx e2) s2
      | .rt d => Q (.rt d) s2) →
    (∀ env st, I (k + l.length) env st → Q (.nx env) st) → I k env st → (forL g b o all l env st).wp Q
  | [], k, env, st, hs, he, h0 => by
    unfold forL
    rw [if_pos (hg _ _ _ h0)]
    exact he env st h0
  | d :: r, k, env, st, hs, he, h0 => by
    unfold forL
    rw [if_pos (hg _ _ _ h0), wp_bd']
    refine R.wp_mono (hs 0 d env st rfl h0) fun e s h1 => ?_
    rw [wp_bd']
    refine R.wp_mono h1 fun f s2 h2 => ?_
    have go : ∀ e2, I (k + 1) e2 s2 → (forL g b o all r e2 s2).wp Q := fun e2 h3 => for_atG I hg r (k + 1) e2 s2 (fun i d env st hi hI => by
      have := hs (i + 1) d env st (by simpa using hi) (by rw [show k + (i + 1) = k + 1 + i by omega]; exact hI)
      rw [show k + (i + 1) + 1 = k + 1 + i + 1 by omega] at this
      exact this) (fun env st h => he env st (by rw [List.length_cons, show k + (r.length + 1) = k + 1 + r.length by omega]; exact h)) h3
    cases f with
    | nx e2 => exact go e2 h2
    | ct e2 => exact go e2 h2
    | bk e2 => exact h2
    | rt d => exact h2
theorem wp_eq2 {α : Type} {r : R α} {d : α} {s' : Sto} (h : r.wp fun d' s'' => d' = d ∧ s'' = s') : r = .ok d s' := by
  cases r with
  | ok a s2 => obtain ⟨rfl, rfl⟩ := (show a = d ∧ s2 = s' from h); rfl
  | ex => exact h.elim
  | bad => exact h.elim
/-! ## rows of rationals, boards -/
def rl (n : Nat) (f : Nat → Rat) : List D := (List.range n).map fun j => rq (f j)
def bdl (m N : Nat) (T : Nat → Nat → Rat) : List D := (List.range m).map fun i => .tup (rl (N + 1) (T i))
def bsl (m : Nat) (β : Nat → Nat) : List D := (List.range m).map fun i => .int (β i : Nat)
@[simp] theorem rl_len (n : Nat) (f : Nat → Rat) : (rl n f).length = n := by simp [rl]
@[simp] theorem bdl_len (m N : Nat) (T : Nat → Nat → Rat) : (bdl m N T).length = m := by simp [bdl]
@[simp] theorem bsl_len (m : Nat) (β : Nat → Nat) : (bsl m β).length = m := by simp [bsl]
theorem getD_map {f : Nat → D} {n i : Nat} (h : i < n) : ((List.range n).map f).getD i .non = f i := by
  rw [List.getD_eq_getElem?_getD, List.getElem?_map, List.getElem?_range h]
  rfl
theorem rl_get {n : Nat} {f : Nat → Rat} {i : Nat} (h : i < n) : (rl n f)[i]? = some (rq (f i)) := by
  unfold rl
  rw [List.getElem?_map, List.getElem?_range h]
  rfl
theorem rl_congr {n : Nat} {f g : Nat → Rat} (h : ∀ j, j < n → f j = g j) : rl n f = rl n g := List.map_congr_left fun j hj => by rw [h j (List.mem_range.mp hj)]
theorem bdl_congr {m N : Nat} {T U : Nat → Nat → Rat} (h : ∀ i, i < m → ∀ j, j ≤ N → T i j = U i j) : bdl m N T = bdl m N U := List.map_congr_left fun i hi => by
  rw [rl_congr fun j hj => h i (List.mem_range.mp hi) j (by omega)]
theorem bsl_congr {m : Nat} {β γ : Nat → Nat} (h : ∀ i, i < m → β i = γ i) : bsl m β = bsl m γ := List.map_congr_left fun i hi => by rw [h i (List.mem_range.mp hi)]
section
variable {s : Sto} {n m N i j : Nat} {f : Nat → Rat} {T : Nat → Nat → Rat} {β : Nat → Nat}
theorem ix_rlT (h : j < n) : opIx (.tup (rl n f)) (.int j) s = .ok (rq (f j)) s := by
  rw [o_ixT _ _ (by omega) (by simp; omega)]
  rw [show ((j : Int)).toNat = j by omega]
  congr 1
  exact getD_map h
theorem ix_rlL (h : j < n) : opIx (.lst (rl n f)) (.int j) s = .ok (rq (f j)) s := by
  rw [o_ixL _ _ (by omega) (by simp; omega)]
  rw [show ((j : Int)).toNat = j by omega]
  congr 1
  exact getD_map h
theorem ix_bsl (h : i < m) : opIx (.lst (bsl m β)) (.int i) s = .ok (.int (β i : Nat)) s := by
  rw [o_ixL _ _ (by omega) (by simp; omega)]
  rw [show ((i : Int)).toNat = i by omega]
  congr 1
  exact getD_map h
theorem ix_bdl {b : Nat} (hb : s[b]? = some (.lst (bdl m N T))) (h : i < m) : opIx (.ref b) (.int i) s = .ok (.tup (rl (N + 1) (T i))) s := by
  rw [o_ixS hb (by omega) (by simp; omega)]
  rw [show ((i : Int)).toNat = i by omega]
  congr 1
  exact getD_map h
theorem ix_lastR : opIx (.tup (rl (N + 1) f)) (.int (-1)) s = .ok (rq (f N)) s := by
  have e : rl (N + 1) f = rl N f ++ [rq (f N)] := by
    unfold rl
    rw [List.range_succ, List.map_append]
    rfl
  rw [e]
  exact ix_last
@[simp] theorem ix_rq0 (x : Rat) : opIx (rq x) (.int 0) s = .ok (.int x.num) s := o_ix0 _ _
@[simp] theorem ix_rq1 (x : Rat) : opIx (rq x) (.int 1) s = .ok (.int (x.den : Int)) s := o_ix1 _ _ _
theorem eq_rq (x y : Rat) : opEq false (rq x) (rq y) s = .ok (.bl (decide (x = y))) s := by
  show opEq false (.tup [.int x.num, .int (x.den : Int)]) (.tup [.int y.num, .int (y.den : Int)]) s = _
  rw [o_eq2]
  congr 2
  by_cases h : x = y
  · subst h; simp
  · rw [decide_eq_false h]
    rw [Bool.and_eq_false_iff]
    apply Classical.byContradiction
    intro z
    rw [not_or] at z
    simp at z
    exact h (Rat.ext z.1 (by have := z.2; omega))
theorem beqs_rl : ∀ (l : List Nat), D.beqs (l.map fun j => rq (f j)) (l.map fun j => rq (f j)) = true
  | [] => by simp [D.beqs]
  | p :: r => by simp [D.beqs, D.beq, rq, qd]; exact beqs_rl r
theorem beqs_bdl : ∀ (l : List Nat), D.beqs (l.map fun i => D.tup (rl (N + 1) (T i))) (l.map fun i => D.tup (rl (N + 1) (T i))) = true
  | [] => by simp [D.beqs]
  | p :: r => by
    have e : D.beqs (rl (N + 1) (T p)) (rl (N + 1) (T p)) = true := beqs_rl _
    simp [D.beqs, D.beq, e]
    exact beqs_bdl r
theorem atB_bdl {b : Nat} (hb : s[b]? = some (.lst (bdl m N T))) : atB b (bdl m N T) s = true := by
  unfold atB
  rw [hb]
  exact beqs_bdl _
theorem items_bdl {b : Nat} (hb : s[b]? = some (.lst (bdl m N T))) : itemsD (.ref b) s = some (bdl m N T, some (.one b)) := by
  show (match s[b]? with | some (.lst ds) => some (ds, some (Gk.one b)) | _ => none) = _
  rw [hb]
theorem en_bdl {b : Nat} (hb : s[b]? = some (.lst (bdl m N T))) : enD [.ref b] s = some (enumD 0 (bdl m N T), some (.many [(b, bdl m N T)])) := by
  show (match itemsD (.ref b) s with | some (a, o) => some (enumD 0 a, jnG (wkG o a)) | _ => none) = _
  rw [items_bdl hb]
  rfl
theorem zp_bdl {b : Nat} (hb : s[b]? = some (.lst (bdl m N T))) (a : List D) : zpD [.ref b, .lst a] s = some (zip2D (bdl m N T) a, some (.many [(b, bdl m N T)])) := by
  show (match itemsD (.ref b) s, itemsD (.lst a) s with
    | some (a, o), some (b, p) => some (zip2D a b, jnG (wkG o a ++ wkG p b))
    | _, _ => none) = _
  rw [items_bdl hb]
  rfl
theorem gst_bdl {b : Nat} {all : List D} (hb : s[b]? = some (.lst (bdl m N T))) : gstB (some (.many [(b, bdl m N T)])) all s = true := by
  show ([(b, bdl m N T)].all fun p => atB p.1 p.2 s) = true
  simp [atB_bdl hb]
theorem enum_rg (f : Nat → D) (n : Nat) : enumD 0 ((List.range n).map f) = (List.range n).map fun i => .tup [.int (i : Nat), f i] := by
  apply List.ext_getElem?
  intro i
  cases e : (enumD 0 ((List.range n).map f))[i]? with
  | none =>
    have h1 := List.getElem?_eq_none_iff.mp e
    have h2 : (enumD 0 ((List.range n).map f)).length = n := by rw [enumD_len]; simp
    rw [List.getElem?_eq_none_iff.mpr (by simp; omega)]
  | some d =>
    obtain ⟨x, h1, rfl⟩ := enumD_at e
    have hi : i < n := by
      have := (List.getElem?_eq_some_iff.mp h1).1
      simpa using this
    rw [List.getElem?_map, List.getElem?_range hi] at h1 ⊢
    cases h1
    simp
theorem zip_rg (f g : Nat → D) (n k : Nat) : zip2D ((List.range n).map f) ((List.range k).map g) = (List.range (min n k)).map fun i => .tup [f i, g i] := by
  apply List.ext_getElem?
  intro i
  unfold zip2D
  rw [List.getElem?_zipWith, List.getElem?_map, List.getElem?_map, List.getElem?_map]
  by_cases h1 : i < n
  · by_cases h2 : i < k
    · rw [List.getElem?_range h1, List.getElem?_range h2, List.getElem?_range (by omega)]
      rfl
    · rw [List.getElem?_range h1, List.getElem?_eq_none_iff.mpr (by simp; omega), List.getElem?_eq_none_iff.mpr (by simp; omega)]
      rfl
  · rw [List.getElem?_eq_none_iff.mpr (by simp; omega : (List.range n).length ≤ i), List.getElem?_eq_none_iff.mpr (by simp; omega : (List.range (min n k)).length ≤ i)]
    rfl
end
end Rf
set_option maxHeartbeats 0
namespace K03
open PySem PySem.Spec L2 Rf
open PyProof.Rows hiding St
def top (i : Nat) : Stmt := PySem.Challenge.pw_safehelms_k03_whole_points_of_lots.main.body.getD i (.Pass ⟨0, 0, 0, 0⟩)
abbrev p0 : Pd := ⟨⟨("_law_frac", none), "_law_frac", "_law_frac", defArgs (top 59), defBody (top 59), defScope (top 59), [], []⟩, ["_law_top", "_law_low", "_law_far", "_law_near"], ["_law_top", "_law_low"]⟩
abbrev p1 : Pd := ⟨⟨("_law_draw", none), "_law_draw", "_law_draw", defArgs (top 57), defBody (top 57), defScope (top 57), [], []⟩, ["_law_well_here", "_law_many", "_law_seed", "_law_digit"], ["_law_well_here", "_law_many"]⟩
abbrev p2 : Pd := ⟨⟨("_law_number", none), "_law_number", "_law_number", defArgs (top 64), defBody (top 64), defScope (top 64), [], []⟩, ["_law_well_here"], ["_law_well_here"]⟩
abbrev p3 : Pd := ⟨⟨("_law_row", none), "_law_row", "_law_row", defArgs (top 65), defBody (top 65), defScope (top 65), [], []⟩, ["_law_well_here", "_law_size", "_law_found", "_law_turn"], ["_law_well_here", "_law_size"]⟩
abbrev p4 : Pd := ⟨⟨("_law_of", none), "_law_of", "_law_of", defArgs (top 58), defBody (top 58), defScope (top 58), [], []⟩, ["_law_well_here", "_law_some"], ["_law_well_here", "_law_some"]⟩
abbrev p5 : Pd := ⟨⟨("_law_lot", none), "_law_lot", "_law_lot", defArgs (top 70), defBody (top 70), defScope (top 70), [], []⟩, ["_law_well_here", "_law_size", "_law_most", "_law_found", "_law_turn", "_law_way", "_law_row_here", "_law_spot", "_law_at", "_law_each"], ["_law_well_here", "_law_size", "_law_most"]⟩
abbrev p6 : Pd := ⟨⟨("_law_plus", none), "_law_plus", "_law_plus", defArgs (top 60), defBody (top 60), defScope (top 60), [], []⟩, ["_law_one", "_law_two"], ["_law_one", "_law_two"]⟩
abbrev p7 : Pd := ⟨⟨("_law_times", none), "_law_times", "_law_times", defArgs (top 61), defBody (top 61), defScope (top 61), [], []⟩, ["_law_one", "_law_two"], ["_law_one", "_law_two"]⟩
abbrev p8 : Pd := ⟨⟨("_law_dot", none), "_law_dot", "_law_dot", defArgs (top 63), defBody (top 63), defScope (top 63), [], []⟩, ["_law_one", "_law_two", "_law_found", "_law_here", "_law_there"], ["_law_one", "_law_two"]⟩
abbrev p9 : Pd := ⟨⟨("_law_up_to", none), "_law_up_to", "_law_up_to", defArgs (top 62), defBody (top 62), defScope (top 62), [], []⟩, ["_law_one", "_law_two"], ["_law_one", "_law_two"]⟩
abbrev p10 : Pd := ⟨⟨("_law_inside", none), "_law_inside", "_law_inside", defArgs (top 71), defBody (top 71), defScope (top 71), [], []⟩, ["_law_well_here", "_law_size", "_law_most", "_law_point", "_law_lot_here", "_law_found", "_law_row_here", "_law_bound", "_law_worth"], ["_law_well_here", "_law_size", "_law_most"]⟩
abbrev p11 : Pd := ⟨⟨("is_whole", none), "is_whole", "is_whole", defArgs (top 6), defBody (top 6), defScope (top 6), [], []⟩, ["value"], ["value"]⟩
abbrev p12 : Pd := ⟨⟨("is_between", none), "is_between", "is_between", defArgs (top 7), defBody (top 7), defScope (top 7), [], []⟩, ["value", "low", "high"], ["value", "low", "high"]⟩
abbrev p13 : Pd := ⟨⟨("are_wholes", none), "are_wholes", "are_wholes", defArgs (top 8), defBody (top 8), defScope (top 8), [], []⟩, ["value", "many", "each"], ["value", "many"]⟩
abbrev p14 : Pd := ⟨⟨("divisor_of", none), "divisor_of", "divisor_of", defArgs (top 9), defBody (top 9), defScope (top 9), [], []⟩, ["one", "two"], ["one", "two"]⟩
abbrev p15 : Pd := ⟨⟨("is_ratio", none), "is_ratio", "is_ratio", defArgs (top 14), defBody (top 14), defScope (top 14), [], []⟩, ["value"], ["value"]⟩
abbrev p16 : Pd := ⟨⟨("is_row_by", none), "is_row_by", "is_row_by", defArgs (top 28), defBody (top 28), defScope (top 28), [], []⟩, ["value", "many", "each"], ["value", "many"]⟩
abbrev p17 : Pd := ⟨⟨("is_wish", none), "is_wish", "is_wish", defArgs (top 45), defBody (top 45), defScope (top 45), [], []⟩, ["value", "size"], ["value", "size"]⟩
abbrev p18 : Pd := ⟨⟨("is_lot_by", none), "is_lot_by", "is_lot_by", defArgs (top 46), defBody (top 46), defScope (top 46), [.int (100)], []⟩, ["value", "most", "each"], ["value", "most"]⟩
abbrev p19 : Pd := ⟨⟨("check_lot", none), "check_lot", "check_lot", defArgs (top 52), defBody (top 52), defScope (top 52), [], []⟩, ["value"], ["value"]⟩
abbrev p20 : Pd := ⟨⟨("ratio", none), "ratio", "ratio", defArgs (top 15), defBody (top 15), defScope (top 15), [], []⟩, ["top", "low", "part"], ["top", "low"]⟩
abbrev p21 : Pd := ⟨⟨("times", none), "times", "times", defArgs (top 18), defBody (top 18), defScope (top 18), [], []⟩, ["one", "two"], ["one", "two"]⟩
abbrev p22 : Pd := ⟨⟨("noughts", none), "noughts", "noughts", defArgs (top 24), defBody (top 24), defScope (top 24), [], []⟩, ["many"], ["many"]⟩
abbrev p23 : Pd := ⟨⟨("unit", none), "unit", "unit", defArgs (top 25), defBody (top 25), defScope (top 25), [], []⟩, ["many", "at"], ["many", "at"]⟩
abbrev p24 : Pd := ⟨⟨("first_board", none), "first_board", "first_board", defArgs (top 32), defBody (top 32), defScope (top 32), [], []⟩, ["columns", "right", "many", "signs", "board", "at", "sign", "row", "number", "column"], ["columns", "right"]⟩
abbrev p25 : Pd := ⟨⟨("minus", none), "minus", "minus", defArgs (top 17), defBody (top 17), defScope (top 17), [], []⟩, ["one", "two"], ["one", "two"]⟩
abbrev p26 : Pd := ⟨⟨("gaps", none), "gaps", "gaps", defArgs (top 33), defBody (top 33), defScope (top 33), [], []⟩, ["board", "basis", "costs", "found", "row", "column", "gap", "number"], ["board", "basis", "costs"]⟩
abbrev p27 : Pd := ⟨⟨("scaled", none), "scaled", "scaled", defArgs (top 26), defBody (top 26), defScope (top 26), [], []⟩, ["row", "number", "each"], ["row", "number"]⟩
abbrev p28 : Pd := ⟨⟨("over", none), "over", "over", defArgs (top 19), defBody (top 19), defScope (top 19), [], []⟩, ["one", "two"], ["one", "two"]⟩
abbrev p29 : Pd := ⟨⟨("turned_about", none), "turned_about", "turned_about", defArgs (top 35), defBody (top 35), defScope (top 35), [], []⟩, ["board", "at", "column", "lead", "found", "place", "row", "one", "two"], ["board", "at", "column"]⟩
abbrev p30 : Pd := ⟨⟨("is_below", none), "is_below", "is_below", defArgs (top 22), defBody (top 22), defScope (top 22), [], []⟩, ["one", "two"], ["one", "two"]⟩
abbrev p31 : Pd := ⟨⟨("leaving", none), "leaving", "leaving", defArgs (top 34), defBody (top 34), defScope (top 34), [], []⟩, ["board", "basis", "column", "found", "at", "row", "key"], ["board", "basis", "column"]⟩
abbrev p32 : Pd := ⟨⟨("descended", none), "descended", "descended", defArgs (top 36), defBody (top 36), defScope (top 36), [], []⟩, ["board", "basis", "costs", "many", "left", "helping", "at", "column"], ["board", "basis", "costs", "many"]⟩
abbrev p33 : Pd := ⟨⟨("driven_out", none), "driven_out", "driven_out", defArgs (top 38), defBody (top 38), defScope (top 38), [], []⟩, ["board", "basis", "many", "at", "others", "column"], ["board", "basis", "many"]⟩
abbrev p34 : Pd := ⟨⟨("weights_by", none), "weights_by", "weights_by", defArgs (top 39), defBody (top 39), defScope (top 39), [], []⟩, ["board", "basis", "many", "found", "row", "column"], ["board", "basis", "many"]⟩
abbrev p35 : Pd := ⟨⟨("prices", none), "prices", "prices", defArgs (top 37), defBody (top 37), defScope (top 37), [], []⟩, ["left", "signs", "costs", "many", "at", "sign"], ["left", "signs", "costs", "many"]⟩
abbrev p36 : Pd := ⟨⟨("least_by", none), "least_by", "least_by", defArgs (top 40), defBody (top 40), defScope (top 40), [], []⟩, ["columns", "right", "costs", "costing", "many", "rows", "board", "signs", "basis", "left", "row", "column"], ["columns", "right", "costs"]⟩
abbrev p37 : Pd := ⟨⟨("opposite", none), "opposite", "opposite", defArgs (top 20), defBody (top 20), defScope (top 20), [], []⟩, ["one"], ["one"]⟩
abbrev p38 : Pd := ⟨⟨("turned", none), "turned", "turned", defArgs (top 27), defBody (top 27), defScope (top 27), [], []⟩, ["row", "each"], ["row"]⟩
abbrev p39 : Pd := ⟨⟨("void_by", none), "void_by", "void_by", defArgs (top 41), defBody (top 41), defScope (top 41), [], []⟩, ["rows", "bounds", "size", "columns", "found", "price", "row", "bound", "each"], ["rows", "bounds", "size"]⟩
abbrev p40 : Pd := ⟨⟨("rows_in", none), "rows_in", "rows_in", defArgs (top 47), defBody (top 47), defScope (top 47), [], []⟩, ["lot", "row", "bound"], ["lot"]⟩
abbrev p41 : Pd := ⟨⟨("bounds_in", none), "bounds_in", "bounds_in", defArgs (top 48), defBody (top 48), defScope (top 48), [], []⟩, ["lot", "row", "bound"], ["lot"]⟩
abbrev p42 : Pd := ⟨⟨("void_weights", none), "void_weights", "void_weights", defArgs (top 50), defBody (top 50), defScope (top 50), [], []⟩, ["lot"], ["lot"]⟩
abbrev p43 : Pd := ⟨⟨("point_of", none), "point_of", "point_of", defArgs (top 54), defBody (top 54), defScope (top 54), [], []⟩, ["lot", "weights", "point"], ["lot"]⟩
abbrev p44 : Pd := ⟨⟨("_law_common", none), "_law_common", "_law_common", defArgs (top 73), defBody (top 73), defScope (top 73), [], []⟩, ["_law_one", "_law_two"], ["_law_one", "_law_two"]⟩
abbrev p45 : Pd := ⟨⟨("_law_lowered", none), "_law_lowered", "_law_lowered", defArgs (top 74), defBody (top 74), defScope (top 74), [], []⟩, ["_law_wish", "_law_by", "_law_each"], ["_law_wish"]⟩
abbrev p46 : Pd := ⟨⟨("_law_joined_wish", none), "_law_joined_wish", "_law_joined_wish", defArgs (top 75), defBody (top 75), defScope (top 75), [], []⟩, ["_law_one", "_law_two", "_law_spot", "_law_both", "_law_up", "_law_down", "_law_here", "_law_there"], ["_law_one", "_law_two", "_law_spot"]⟩
abbrev p47 : Pd := ⟨⟨("_law_is_void", none), "_law_is_void", "_law_is_void", defArgs (top 76), defBody (top 76), defScope (top 76), [], []⟩, ["_law_wishes", "_law_size", "_law_left", "_law_spot", "_law_found", "_law_downs", "_law_one", "_law_wish", "_law_two"], ["_law_wishes", "_law_size"]⟩
abbrev p48 : Pd := ⟨⟨("check_row", none), "check_row", "check_row", defArgs (top 30), defBody (top 30), defScope (top 30), [], []⟩, ["many", "value", "index", "each"], ["many", "value"]⟩
abbrev p49 : Pd := ⟨⟨("is_up_to", none), "is_up_to", "is_up_to", defArgs (top 21), defBody (top 21), defScope (top 21), [], []⟩, ["one", "two"], ["one", "two"]⟩
abbrev p50 : Pd := ⟨⟨("plus", none), "plus", "plus", defArgs (top 16), defBody (top 16), defScope (top 16), [], []⟩, ["one", "two"], ["one", "two"]⟩
abbrev p51 : Pd := ⟨⟨("dot", none), "dot", "dot", defArgs (top 23), defBody (top 23), defScope (top 23), [], []⟩, ["one", "two", "found", "here", "there"], ["one", "two"]⟩
abbrev p52 : Pd := ⟨⟨("lies_by", none), "lies_by", "lies_by", defArgs (top 49), defBody (top 49), defScope (top 49), [], []⟩, ["lot", "point", "row", "bound"], ["lot", "point"]⟩
abbrev p53 : Pd := ⟨⟨("lies_in", none), "lies_in", "lies_in", defArgs (top 53), defBody (top 53), defScope (top 53), [], []⟩, ["lot", "point"], ["lot", "point"]⟩
abbrev p54 : Pd := ⟨⟨("_law_whole_wish", none), "_law_whole_wish", "_law_whole_wish", defArgs (top 72), defBody (top 72), defScope (top 72), [], []⟩, ["_law_row_here", "_law_bound", "_law_strict", "_law_times_here", "_law_each"], ["_law_row_here", "_law_bound", "_law_strict"]⟩
abbrev p55 : Pd := ⟨⟨("_law_lot_wishes", none), "_law_lot_wishes", "_law_lot_wishes", defArgs (top 77), defBody (top 77), defScope (top 77), [], []⟩, ["_law_lot_here", "_law_row_here", "_law_bound"], ["_law_lot_here"]⟩
abbrev p56 : Pd := ⟨⟨("_law_lies", none), "_law_lies", "_law_lies", defArgs (top 69), defBody (top 69), defScope (top 69), [], []⟩, ["_law_lot_here", "_law_point", "_law_row_here", "_law_bound"], ["_law_lot_here", "_law_point"]⟩
abbrev p57 : Pd := ⟨⟨("_law_is_whole", none), "_law_is_whole", "_law_is_whole", defArgs (top 66), defBody (top 66), defScope (top 66), [], []⟩, ["_law_thing"], ["_law_thing"]⟩
abbrev p58 : Pd := ⟨⟨("_law_is_frac", none), "_law_is_frac", "_law_is_frac", defArgs (top 67), defBody (top 67), defScope (top 67), [], []⟩, ["_law_thing"], ["_law_thing"]⟩
abbrev p59 : Pd := ⟨⟨("_law_is_row", none), "_law_is_row", "_law_is_row", defArgs (top 68), defBody (top 68), defScope (top 68), [], []⟩, ["_law_thing", "_law_size", "_law_each"], ["_law_thing", "_law_size"]⟩
abbrev p60 : Pd := ⟨⟨("_law_right", none), "_law_right", "_law_right", defArgs (top 78), defBody (top 78), defScope (top 78), [], []⟩, ["_law_well_here", "_law_size", "_law_some", "_law_point", "_law_lot_here", "_law_told", "_law_row_here", "_law_due"], ["_law_well_here"]⟩
abbrev p61 : Pd := ⟨⟨("_law_well", none), "_law_well", "_law_well", defArgs (top 56), defBody (top 56), defScope (top 56), [], []⟩, ["_law_script", "_law_turn", "_law_own", "_law_seed", "_law_cell"], ["_law_script", "_law_turn"]⟩
abbrev p62 : Pd := ⟨⟨("law", none), "law", "law", defArgs (top 79), defBody (top 79), defScope (top 79), [], []⟩, ["_law_script", "_law_turn"], ["_law_script"]⟩
def pds : List Pd := [p0, p1, p2, p3, p4, p5, p6, p7, p8, p9, p10, p11, p12, p13, p14, p15, p16, p17, p18, p19, p20, p21, p22, p23, p24, p25, p26, p27, p28, p29, p30, p31, p32, p33, p34, p35, p36, p37, p38, p39, p40, p41, p42, p43, p44, p45, p46, p47, p48, p49, p50, p51, p52, p53, p54, p55, p56, p57, p58, p59, p60, p61, p62]
abbrev f0 : Fi := ⟨"_law_draw", 2, [], 1, [.at 0, .at 1]⟩
abbrev f1 : Fi := ⟨"_law_frac", 2, [], 0, [.at 0, .at 1]⟩
abbrev f2 : Fi := ⟨"_law_number", 1, [], 2, [.at 0]⟩
abbrev f3 : Fi := ⟨"_law_row", 2, [], 3, [.at 0, .at 1]⟩
abbrev f4 : Fi := ⟨"_law_of", 2, [], 4, [.at 0, .at 1]⟩
abbrev f5 : Fi := ⟨"_law_plus", 2, [], 6, [.at 0, .at 1]⟩
abbrev f6 : Fi := ⟨"_law_times", 2, [], 7, [.at 0, .at 1]⟩
abbrev f7 : Fi := ⟨"_law_lot", 3, [], 5, [.at 0, .at 1, .at 2]⟩
abbrev f8 : Fi := ⟨"_law_dot", 2, [], 8, [.at 0, .at 1]⟩
abbrev f9 : Fi := ⟨"_law_up_to", 2, [], 9, [.at 0, .at 1]⟩
abbrev f10 : Fi := ⟨"is_whole", 1, [], 11, [.at 0]⟩
abbrev f11 : Fi := ⟨"are_wholes", 2, [], 13, [.at 0, .at 1]⟩
abbrev f12 : Fi := ⟨"divisor_of", 2, [], 14, [.at 0, .at 1]⟩
abbrev f13 : Fi := ⟨"is_ratio", 1, [], 15, [.at 0]⟩
abbrev f14 : Fi := ⟨"is_row_by", 2, [], 16, [.at 0, .at 1]⟩
abbrev f15 : Fi := ⟨"is_between", 3, [], 12, [.at 0, .at 1, .at 2]⟩
abbrev f16 : Fi := ⟨"is_wish", 2, [], 17, [.at 0, .at 1]⟩
abbrev f17 : Fi := ⟨"is_lot_by", 1, [], 18, [.at 0, .int (100)]⟩
abbrev f18 : Fi := ⟨"ratio", 2, [], 20, [.at 0, .at 1]⟩
abbrev f19 : Fi := ⟨"noughts", 1, [], 22, [.at 0]⟩
abbrev f20 : Fi := ⟨"times", 2, [], 21, [.at 0, .at 1]⟩
abbrev f21 : Fi := ⟨"unit", 2, [], 23, [.at 0, .at 1]⟩
abbrev f22 : Fi := ⟨"minus", 2, [], 25, [.at 0, .at 1]⟩
abbrev f23 : Fi := ⟨"scaled", 2, [], 27, [.at 0, .at 1]⟩
abbrev f24 : Fi := ⟨"over", 2, [], 28, [.at 0, .at 1]⟩
abbrev f25 : Fi := ⟨"is_below", 2, [], 30, [.at 0, .at 1]⟩
abbrev f26 : Fi := ⟨"gaps", 3, [], 26, [.at 0, .at 1, .at 2]⟩
abbrev f27 : Fi := ⟨"leaving", 3, [], 31, [.at 0, .at 1, .at 2]⟩
abbrev f28 : Fi := ⟨"turned_about", 3, [], 29, [.at 0, .at 1, .at 2]⟩
abbrev f29 : Fi := ⟨"first_board", 2, [], 24, [.at 0, .at 1]⟩
abbrev f30 : Fi := ⟨"descended", 4, [], 32, [.at 0, .at 1, .at 2, .at 3]⟩
abbrev f31 : Fi := ⟨"prices", 4, [], 35, [.at 0, .at 1, .at 2, .at 3]⟩
abbrev f32 : Fi := ⟨"driven_out", 3, [], 33, [.at 0, .at 1, .at 2]⟩
abbrev f33 : Fi := ⟨"weights_by", 3, [], 34, [.at 0, .at 1, .at 2]⟩
abbrev f34 : Fi := ⟨"opposite", 1, [], 37, [.at 0]⟩
abbrev f35 : Fi := ⟨"least_by", 3, [], 36, [.at 0, .at 1, .at 2]⟩
abbrev f36 : Fi := ⟨"turned", 1, [], 38, [.at 0]⟩
abbrev f37 : Fi := ⟨"void_by", 3, [], 39, [.at 0, .at 1, .at 2]⟩
abbrev f38 : Fi := ⟨"bounds_in", 1, [], 41, [.at 0]⟩
abbrev f39 : Fi := ⟨"rows_in", 1, [], 40, [.at 0]⟩
abbrev f40 : Fi := ⟨"check_lot", 1, [], 19, [.at 0]⟩
abbrev f41 : Fi := ⟨"void_weights", 1, [], 42, [.at 0]⟩
abbrev f42 : Fi := ⟨"_law_common", 2, [], 44, [.at 0, .at 1]⟩
abbrev f43 : Fi := ⟨"_law_lowered", 1, [], 45, [.at 0]⟩
abbrev f44 : Fi := ⟨"_law_joined_wish", 3, [], 46, [.at 0, .at 1, .at 2]⟩
abbrev f45 : Fi := ⟨"plus", 2, [], 50, [.at 0, .at 1]⟩
abbrev f46 : Fi := ⟨"is_up_to", 2, [], 49, [.at 0, .at 1]⟩
abbrev f47 : Fi := ⟨"dot", 2, [], 51, [.at 0, .at 1]⟩
abbrev f48 : Fi := ⟨"check_row", 2, [], 48, [.at 0, .at 1]⟩
abbrev f49 : Fi := ⟨"lies_by", 2, [], 52, [.at 0, .at 1]⟩
abbrev f50 : Fi := ⟨"_law_whole_wish", 3, [], 54, [.at 0, .at 1, .at 2]⟩
abbrev f51 : Fi := ⟨"_law_is_whole", 1, [], 57, [.at 0]⟩
abbrev f52 : Fi := ⟨"_law_is_frac", 1, [], 58, [.at 0]⟩
abbrev f53 : Fi := ⟨"_law_inside", 3, [], 10, [.at 0, .at 1, .at 2]⟩
abbrev f54 : Fi := ⟨"point_of", 1, [], 43, [.at 0]⟩
abbrev f55 : Fi := ⟨"point_of", 0, ["lot"], 43, [.at 0]⟩
abbrev f56 : Fi := ⟨"_law_is_void", 2, [], 47, [.at 0, .at 1]⟩
abbrev f57 : Fi := ⟨"_law_lot_wishes", 1, [], 55, [.at 0]⟩
abbrev f58 : Fi := ⟨"_law_is_row", 2, [], 59, [.at 0, .at 1]⟩
abbrev f59 : Fi := ⟨"_law_lies", 2, [], 56, [.at 0, .at 1]⟩
abbrev f60 : Fi := ⟨"lies_in", 2, [], 53, [.at 0, .at 1]⟩
abbrev f61 : Fi := ⟨"lies_in", 0, ["point", "lot"], 53, [.at 1, .at 0]⟩
abbrev f62 : Fi := ⟨"_law_right", 1, [], 60, [.at 0]⟩
abbrev f63 : Fi := ⟨"_law_well", 2, [], 61, [.at 0, .at 1]⟩
def G : Gi := ⟨[f0, f1, f2, f3, f4, f5, f6, f7, f8, f9, f10, f11, f12, f13, f14, f15, f16, f17, f18, f19, f20, f21, f22, f23, f24, f25, f26, f27, f28, f29, f30, f31, f32, f33, f34, f35, f36, f37, f38, f39, f40, f41, f42, f43, f44, f45, f46, f47, f48, f49, f50, f51, f52, f53, f54, f55, f56, f57, f58, f59, f60, f61, f62, f63], [("LESS", (.tup [(.int (-1)), (.int (1))])), ("MOST_SIZE", (.int (12))), ("ONE", (.tup [(.int (1)), (.int (1))])), ("ZERO", (.tup [(.int (0)), (.int (1))]))], true, []⟩
def C : Cfg := ⟨G, [(74, 12), (95, 12), (124, 12), (184, 11), (217, 17), (232, 17), (243, 130)]⟩
def B : Bds := bdsOf pds C 1000000 200
/-- the defs to a depth, kept shut -/
@[irreducible] def Fx (n : Nat) : Fn := callN B n
theorem fx (n : Nat) : Fx n = callN B n := by unfold Fx; rfl
/-- slots: 0 _law_top 1 _law_low 2 _law_far 3 _law_near -/
def m_law_frac (F : Fn) : MS := (mSeq (mPar 2 3 (mCons (mOpN opAbs (mCons (mVar 0) mNil)) (mCons (mOpN opAbs (mCons (mVar 1) mNil)) mNil)))
    (mSeq (mWhl 1000000 (mTest (mOp2 (opCmp fun i j => decide (j < i)) (mVar 3) (mCst (.int 0))))
    (mPar 2 3 (mCons (mVar 3) (mCons (mOp2 opMod (mOpN opInt (mCons (mVar 2) mNil)) (mVar 3)) mNil))))
    (mSeq (mAsg (gNm 2) (mIf (mTest (mOp2 (opCmp fun i j => decide (j < i)) (mVar 1) (mCst (.int 0)))) (mVar 2) (mOp2 opSub (mCst (.int 0)) (mVar 2))))
    (mRet (mOpN opTup (mCons (mOp2 opDiv (mVar 0) (mVar 2)) (mCons (mOp2 opDiv (mVar 1) (mVar 2)) mNil)))))))
theorem e0 (F : Fn) : cSs C F 1000000 200 p0.ci p0.d.body = m_law_frac F := by kernel_rfl
theorem b0 (F : Fn) : B 0 F = (2, 4, m_law_frac F) := by rw [show B 0 F = (p0.ps.length, p0.N.length, cSs C F 1000000 200 p0.ci p0.d.body) by kernel_rfl, e0]; rfl
theorem c0 (n : Nat) (ds : List D) (st : Sto) : Fx (n + 1) 0 ds st = runB 2 4 (m_law_frac (Fx n)) ds st := by rw [fx, fx]; show runB (B 0 _).1 (B 0 _).2.1 (B 0 _).2.2 ds st = _; rw [b0]
/-- slots: 0 _law_well_here 1 _law_many 2 _law_seed 3 _law_digit -/
def m_law_draw (F : Fn) : MS := (mSeq (mIfS (mTest (mOp2 (opCmp fun i j => decide (j < i)) (mOp2 opIx (mVar 0) (mCst (.int 0))) (mCst (.int 0))))
    (mSeq (mAsg (gTp 2 (gCons (gSub (mVar 0) (mCst (.int 0))) (gCons (gNm 3) gNil))) (mOpN opDm (mCons (mOp2 opIx (mVar 0) (mCst (.int 0))) (mCons (mVar 1) mNil))))
    (mRet (mVar 3)))
    mPass)
    (mSeq (mAsg (gSub (mVar 0) (mCst (.int 2))) (mOp2 (opAdd false) (mOp2 opIx (mVar 0) (mCst (.int 2))) (mCst (.int 1))))
    (mSeq (mAsg (gNm 2) (mOp2 opMod (mOpN opInt (mCons (mOp2 (opAdd false) (mOp2 (opAdd false) (mOp2 (opMul false) (mOp2 opIx (mVar 0) (mCst (.int 1))) (mCst (.int 40014))) (mOp2 (opMul false) (mOp2 opIx (mVar 0) (mCst (.int 2))) (mCst (.int 52387)))) (mCst (.int 5))) mNil)) (mCst (.int 2147483587))))
    (mSeq (mAsg (gSub (mVar 0) (mCst (.int 1))) (mVar 2))
    (mRet (mOp2 opMod (mOpN opInt (mCons (mOp2 opDiv (mOp2 opMod (mOpN opInt (mCons (mOp2 (opMul false) (mVar 2) (mOp2 (opAdd false) (mOp2 opMod (mOpN opInt (mCons (mVar 2) mNil)) (mCst (.int 6007))) (mCst (.int 30029)))) mNil)) (mCst (.int 2147483563))) (mCst (.int 127))) mNil)) (mVar 1)))))))
theorem e1 (F : Fn) : cSs C F 1000000 200 p1.ci p1.d.body = m_law_draw F := by kernel_rfl
theorem b1 (F : Fn) : B 1 F = (2, 4, m_law_draw F) := by rw [show B 1 F = (p1.ps.length, p1.N.length, cSs C F 1000000 200 p1.ci p1.d.body) by kernel_rfl, e1]; rfl
theorem c1 (n : Nat) (ds : List D) (st : Sto) : Fx (n + 1) 1 ds st = runB 2 4 (m_law_draw (Fx n)) ds st := by rw [fx, fx]; show runB (B 1 _).1 (B 1 _).2.1 (B 1 _).2.2 ds st = _; rw [b1]
/-- slots: 0 _law_well_here -/
def m_law_number (F : Fn) : MS := (mSeq (mIfS (mTest (mOp2 (opCmp fun i j => decide (j < i)) (mCall F 1 [.at 0, .at 1] (mCons (mVar 0) (mCons (mCst (.int 4)) mNil))) (mCst (.int 0))))
    (mRet (mOp2 opIx (mOpN opTup (mCons (mOpN opTup (mCons (mCst (.int 0)) (mCons (mCst (.int 1)) mNil))) (mCons (mOpN opTup (mCons (mCst (.int 1)) (mCons (mCst (.int 1)) mNil))) (mCons (mOpN opTup (mCons (mOp1 opNeg (mCst (.int 1))) (mCons (mCst (.int 1)) mNil))) (mCons (mOpN opTup (mCons (mCst (.int 2)) (mCons (mCst (.int 1)) mNil))) (mCons (mOpN opTup (mCons (mCst (.int 0)) (mCons (mCst (.int 1)) mNil))) (mCons (mOpN opTup (mCons (mOp1 opNeg (mCst (.int 2))) (mCons (mCst (.int 1)) mNil))) (mCons (mOpN opTup (mCons (mCst (.int 3)) (mCons (mCst (.int 1)) mNil))) (mCons (mOpN opTup (mCons (mCst (.int 1)) (mCons (mCst (.int 1)) mNil))) mNil))))))))) (mCall F 1 [.at 0, .at 1] (mCons (mVar 0) (mCons (mCst (.int 8)) mNil)))))
    mPass)
    (mRet (mCall F 0 [.at 0, .at 1] (mCons (mOp2 opSub (mCall F 1 [.at 0, .at 1] (mCons (mVar 0) (mCons (mCst (.int 13)) mNil))) (mCst (.int 6))) (mCons (mOp2 (opAdd false) (mCst (.int 2)) (mCall F 1 [.at 0, .at 1] (mCons (mVar 0) (mCons (mCst (.int 3)) mNil)))) mNil)))))
theorem e2 (F : Fn) : cSs C F 1000000 200 p2.ci p2.d.body = m_law_number F := by kernel_rfl
theorem b2 (F : Fn) : B 2 F = (1, 1, m_law_number F) := by rw [show B 2 F = (p2.ps.length, p2.N.length, cSs C F 1000000 200 p2.ci p2.d.body) by kernel_rfl, e2]; rfl
theorem c2 (n : Nat) (ds : List D) (st : Sto) : Fx (n + 1) 2 ds st = runB 1 1 (m_law_number (Fx n)) ds st := by rw [fx, fx]; show runB (B 2 _).1 (B 2 _).2.1 (B 2 _).2.2 ds st = _; rw [b2]
/-- slots: 0 _law_well_here 1 _law_size 2 _law_found 3 _law_turn -/
def m_law_row (F : Fn) : MS := (mSeq (mAsg (gNm 2) (mOpN (opLst true) mNil))
    (mSeq (mFor (gNm 3) (mRg (mCons (mVar 1) mNil))
    (mExp (mMt opApp (mVar 2) (mCall F 2 [.at 0] (mCons (mVar 0) mNil)))))
    (mRet (mOpN (un1 opTupOf) (mCons (mVar 2) mNil)))))
theorem e3 (F : Fn) : cSs C F 1000000 200 p3.ci p3.d.body = m_law_row F := by kernel_rfl
theorem b3 (F : Fn) : B 3 F = (2, 4, m_law_row F) := by rw [show B 3 F = (p3.ps.length, p3.N.length, cSs C F 1000000 200 p3.ci p3.d.body) by kernel_rfl, e3]; rfl
theorem c3 (n : Nat) (ds : List D) (st : Sto) : Fx (n + 1) 3 ds st = runB 2 4 (m_law_row (Fx n)) ds st := by rw [fx, fx]; show runB (B 3 _).1 (B 3 _).2.1 (B 3 _).2.2 ds st = _; rw [b3]
/-- slots: 0 _law_well_here 1 _law_some -/
def m_law_of (F : Fn) : MS := (mRet (mOp2 opIx (mVar 1) (mCall F 1 [.at 0, .at 1] (mCons (mVar 0) (mCons (mOpN (un1 opLen) (mCons (mVar 1) mNil)) mNil)))))
theorem e4 (F : Fn) : cSs C F 1000000 200 p4.ci p4.d.body = m_law_of F := by kernel_rfl
theorem b4 (F : Fn) : B 4 F = (2, 2, m_law_of F) := by rw [show B 4 F = (p4.ps.length, p4.N.length, cSs C F 1000000 200 p4.ci p4.d.body) by kernel_rfl, e4]; rfl
theorem c4 (n : Nat) (ds : List D) (st : Sto) : Fx (n + 1) 4 ds st = runB 2 2 (m_law_of (Fx n)) ds st := by rw [fx, fx]; show runB (B 4 _).1 (B 4 _).2.1 (B 4 _).2.2 ds st = _; rw [b4]
/-- slots: 0 _law_well_here 1 _law_size 2 _law_most 3 _law_found 4 _law_turn 5 _law_way 6 _law_row_here 7 _law_spot 8 _law_at 9 _law_each -/
def m_law_lot (F : Fn) : MS := (mSeq (mAsg (gNm 3) (mOpN (opLst true) mNil))
    (mSeq (mFor (gNm 4) (mRg (mCons (mCall F 1 [.at 0, .at 1] (mCons (mVar 0) (mCons (mOp2 (opAdd false) (mVar 2) (mCst (.int 1))) mNil))) mNil))
    (mSeq (mAsg (gTp 2 (gCons (gNm 5) (gCons (gNm 6) gNil))) (mOpN opTup (mCons (mCall F 1 [.at 0, .at 1] (mCons (mVar 0) (mCons (mCst (.int 6)) mNil))) (mCons (mCall F 3 [.at 0, .at 1] (mCons (mVar 0) (mCons (mVar 1) mNil))) mNil))))
    (mSeq (mIfS (mTest (mOp2 (opCmp fun i j => decide (i < j)) (mVar 5) (mCst (.int 2))))
    (mSeq (mAsg (gNm 7) (mCall F 1 [.at 0, .at 1] (mCons (mVar 0) (mCons (mVar 1) mNil))))
    (mAsg (gNm 6) (mOpN (un1 opTupOf) (mCons (mLc false [8] (gNm 8) mYes (mIf (mTest (mOp2 (opEq false) (mVar 8) (mVar 7))) (mOpN opTup (mCons (mOp2 opSub (mCst (.int 1)) (mOp2 (opMul false) (mCst (.int 2)) (mVar 5))) (mCons (mCst (.int 1)) mNil))) (mOpN opTup (mCons (mCst (.int 0)) (mCons (mCst (.int 1)) mNil)))) (mRg (mCons (mVar 1) mNil))) mNil))))
    (mIfS (mAndT (mTest (mOp2 (opEq false) (mVar 5) (mCst (.int 2)))) (mTest (mOp2 (opEq true) (mVar 3) (mOpN (opLst false) mNil))))
    (mAsg (gNm 6) (mOpN (un1 opTupOf) (mCons (mLc false [9] (gNm 9) mYes (mOpN opTup (mCons (mOp2 opSub (mCst (.int 0)) (mOp2 opIx (mVar 9) (mCst (.int 0)))) (mCons (mOp2 opIx (mVar 9) (mCst (.int 1))) mNil))) (mIt (mOp2 opIx (mCall F 4 [.at 0, .at 1] (mCons (mVar 0) (mCons (mVar 3) mNil))) (mCst (.int 0))))) mNil)))
    mPass))
    (mExp (mMt opApp (mVar 3) (mOpN opTup (mCons (mVar 6) (mCons (mCall F 2 [.at 0] (mCons (mVar 0) mNil)) mNil))))))))
    (mRet (mOpN opTup (mCons (mVar 1) (mCons (mOpN (un1 opTupOf) (mCons (mVar 3) mNil)) mNil))))))
theorem e5 (F : Fn) : cSs C F 1000000 200 p5.ci p5.d.body = m_law_lot F := by kernel_rfl
theorem b5 (F : Fn) : B 5 F = (3, 10, m_law_lot F) := by rw [show B 5 F = (p5.ps.length, p5.N.length, cSs C F 1000000 200 p5.ci p5.d.body) by kernel_rfl, e5]; rfl
theorem c5 (n : Nat) (ds : List D) (st : Sto) : Fx (n + 1) 5 ds st = runB 3 10 (m_law_lot (Fx n)) ds st := by rw [fx, fx]; show runB (B 5 _).1 (B 5 _).2.1 (B 5 _).2.2 ds st = _; rw [b5]
/-- slots: 0 _law_one 1 _law_two -/
def m_law_plus (F : Fn) : MS := (mRet (mCall F 0 [.at 0, .at 1] (mCons (mOp2 (opAdd false) (mOp2 (opMul false) (mOp2 opIx (mVar 0) (mCst (.int 0))) (mOp2 opIx (mVar 1) (mCst (.int 1)))) (mOp2 (opMul false) (mOp2 opIx (mVar 1) (mCst (.int 0))) (mOp2 opIx (mVar 0) (mCst (.int 1))))) (mCons (mOp2 (opMul false) (mOp2 opIx (mVar 0) (mCst (.int 1))) (mOp2 opIx (mVar 1) (mCst (.int 1)))) mNil))))
theorem e6 (F : Fn) : cSs C F 1000000 200 p6.ci p6.d.body = m_law_plus F := by kernel_rfl
theorem b6 (F : Fn) : B 6 F = (2, 2, m_law_plus F) := by rw [show B 6 F = (p6.ps.length, p6.N.length, cSs C F 1000000 200 p6.ci p6.d.body) by kernel_rfl, e6]; rfl
theorem c6 (n : Nat) (ds : List D) (st : Sto) : Fx (n + 1) 6 ds st = runB 2 2 (m_law_plus (Fx n)) ds st := by rw [fx, fx]; show runB (B 6 _).1 (B 6 _).2.1 (B 6 _).2.2 ds st = _; rw [b6]
/-- slots: 0 _law_one 1 _law_two -/
def m_law_times (F : Fn) : MS := (mRet (mCall F 0 [.at 0, .at 1] (mCons (mOp2 (opMul false) (mOp2 opIx (mVar 0) (mCst (.int 0))) (mOp2 opIx (mVar 1) (mCst (.int 0)))) (mCons (mOp2 (opMul false) (mOp2 opIx (mVar 0) (mCst (.int 1))) (mOp2 opIx (mVar 1) (mCst (.int 1)))) mNil))))
theorem e7 (F : Fn) : cSs C F 1000000 200 p7.ci p7.d.body = m_law_times F := by kernel_rfl
theorem b7 (F : Fn) : B 7 F = (2, 2, m_law_times F) := by rw [show B 7 F = (p7.ps.length, p7.N.length, cSs C F 1000000 200 p7.ci p7.d.body) by kernel_rfl, e7]; rfl
theorem c7 (n : Nat) (ds : List D) (st : Sto) : Fx (n + 1) 7 ds st = runB 2 2 (m_law_times (Fx n)) ds st := by rw [fx, fx]; show runB (B 7 _).1 (B 7 _).2.1 (B 7 _).2.2 ds st = _; rw [b7]
/-- slots: 0 _law_one 1 _law_two 2 _law_found 3 _law_here 4 _law_there -/
def m_law_dot (F : Fn) : MS := (mSeq (mAsg (gNm 2) (mOpN opTup (mCons (mCst (.int 0)) (mCons (mCst (.int 1)) mNil))))
    (mSeq (mFor (gTp 2 (gCons (gNm 3) (gCons (gNm 4) gNil))) (mZp (mCons (mVar 0) (mCons (mVar 1) mNil)))
    (mAsg (gNm 2) (mCall F 6 [.at 0, .at 1] (mCons (mVar 2) (mCons (mCall F 7 [.at 0, .at 1] (mCons (mVar 3) (mCons (mVar 4) mNil))) mNil)))))
    (mRet (mVar 2))))
theorem e8 (F : Fn) : cSs C F 1000000 200 p8.ci p8.d.body = m_law_dot F := by kernel_rfl
theorem b8 (F : Fn) : B 8 F = (2, 5, m_law_dot F) := by rw [show B 8 F = (p8.ps.length, p8.N.length, cSs C F 1000000 200 p8.ci p8.d.body) by kernel_rfl, e8]; rfl
theorem c8 (n : Nat) (ds : List D) (st : Sto) : Fx (n + 1) 8 ds st = runB 2 5 (m_law_dot (Fx n)) ds st := by rw [fx, fx]; show runB (B 8 _).1 (B 8 _).2.1 (B 8 _).2.2 ds st = _; rw [b8]
/-- slots: 0 _law_one 1 _law_two -/
def m_law_up_to (F : Fn) : MS := (mRet (mOp2 (opCmp fun i j => decide (i ≤ j)) (mOp2 (opMul false) (mOp2 opIx (mVar 0) (mCst (.int 0))) (mOp2 opIx (mVar 1) (mCst (.int 1)))) (mOp2 (opMul false) (mOp2 opIx (mVar 1) (mCst (.int 0))) (mOp2 opIx (mVar 0) (mCst (.int 1))))))
theorem e9 (F : Fn) : cSs C F 1000000 200 p9.ci p9.d.body = m_law_up_to F := by kernel_rfl
theorem b9 (F : Fn) : B 9 F = (2, 2, m_law_up_to F) := by rw [show B 9 F = (p9.ps.length, p9.N.length, cSs C F 1000000 200 p9.ci p9.d.body) by kernel_rfl, e9]; rfl
theorem c9 (n : Nat) (ds : List D) (st : Sto) : Fx (n + 1) 9 ds st = runB 2 2 (m_law_up_to (Fx n)) ds st := by rw [fx, fx]; show runB (B 9 _).1 (B 9 _).2.1 (B 9 _).2.2 ds st = _; rw [b9]
/-- slots: 0 _law_well_here 1 _law_size 2 _law_most 3 _law_point 4 _law_lot_here 5 _law_found 6 _law_row_here 7 _law_bound 8 _law_worth -/
def m_law_inside (F : Fn) : MS := (mSeq (mPar3 3 4 5 (mCons (mCall F 3 [.at 0, .at 1] (mCons (mVar 0) (mCons (mVar 1) mNil))) (mCons (mCall F 5 [.at 0, .at 1, .at 2] (mCons (mVar 0) (mCons (mVar 1) (mCons (mVar 2) mNil)))) (mCons (mOpN (opLst true) mNil) mNil))))
    (mSeq (mFor (gTp 2 (gCons (gNm 6) (gCons (gNm 7) gNil))) (mIt (mOp2 opIx (mVar 4) (mCst (.int 1))))
    (mSeq (mAsg (gNm 8) (mCall F 8 [.at 0, .at 1] (mCons (mVar 6) (mCons (mVar 3) mNil))))
    (mSeq (mIfS (mNotT (mTest (mCall F 9 [.at 0, .at 1] (mCons (mVar 8) (mCons (mVar 7) mNil)))))
    (mAsg (gNm 7) (mCall F 6 [.at 0, .at 1] (mCons (mVar 8) (mCons (mCall F 4 [.at 0, .at 1] (mCons (mVar 0) (mCons (mOpN opTup (mCons (mOpN opTup (mCons (mCst (.int 0)) (mCons (mCst (.int 1)) mNil))) (mCons (mOpN opTup (mCons (mCst (.int 1)) (mCons (mCst (.int 2)) mNil))) (mCons (mOpN opTup (mCons (mCst (.int 2)) (mCons (mCst (.int 1)) mNil))) mNil)))) mNil))) mNil))))
    mPass)
    (mExp (mMt opApp (mVar 5) (mOpN opTup (mCons (mVar 6) (mCons (mVar 7) mNil))))))))
    (mRet (mOpN opTup (mCons (mVar 3) (mCons (mOpN opTup (mCons (mVar 1) (mCons (mOpN (un1 opTupOf) (mCons (mVar 5) mNil)) mNil))) mNil))))))
theorem e10 (F : Fn) : cSs C F 1000000 200 p10.ci p10.d.body = m_law_inside F := by kernel_rfl
theorem b10 (F : Fn) : B 10 F = (3, 9, m_law_inside F) := by rw [show B 10 F = (p10.ps.length, p10.N.length, cSs C F 1000000 200 p10.ci p10.d.body) by kernel_rfl, e10]; rfl
theorem c10 (n : Nat) (ds : List D) (st : Sto) : Fx (n + 1) 10 ds st = runB 3 9 (m_law_inside (Fx n)) ds st := by rw [fx, fx]; show runB (B 10 _).1 (B 10 _).2.1 (B 10 _).2.2 ds st = _; rw [b10]
/-- slots: 0 value -/
def m_is_whole (F : Fn) : MS := (mRet (mAndV (mOp1 (opIsi .int) (mVar 0)) (mNotV (mOp1 (opIsi .bool) (mVar 0)))))
theorem e11 (F : Fn) : cSs C F 1000000 200 p11.ci p11.d.body = m_is_whole F := by kernel_rfl
theorem b11 (F : Fn) : B 11 F = (1, 1, m_is_whole F) := by rw [show B 11 F = (p11.ps.length, p11.N.length, cSs C F 1000000 200 p11.ci p11.d.body) by kernel_rfl, e11]; rfl
theorem c11 (n : Nat) (ds : List D) (st : Sto) : Fx (n + 1) 11 ds st = runB 1 1 (m_is_whole (Fx n)) ds st := by rw [fx, fx]; show runB (B 11 _).1 (B 11 _).2.1 (B 11 _).2.2 ds st = _; rw [b11]
/-- slots: 0 value 1 low 2 high -/
def m_is_between (F : Fn) : MS := (mRet (mAndV (mCall F 11 [.at 0] (mCons (mVar 0) mNil)) (mChn (fun i j => decide (i ≤ j)) (fun i j => decide (i ≤ j)) (mVar 1) (mVar 0) (mVar 2))))
theorem e12 (F : Fn) : cSs C F 1000000 200 p12.ci p12.d.body = m_is_between F := by kernel_rfl
theorem b12 (F : Fn) : B 12 F = (3, 3, m_is_between F) := by rw [show B 12 F = (p12.ps.length, p12.N.length, cSs C F 1000000 200 p12.ci p12.d.body) by kernel_rfl, e12]; rfl
theorem c12 (n : Nat) (ds : List D) (st : Sto) : Fx (n + 1) 12 ds st = runB 3 3 (m_is_between (Fx n)) ds st := by rw [fx, fx]; show runB (B 12 _).1 (B 12 _).2.1 (B 12 _).2.2 ds st = _; rw [b12]
/-- slots: 0 value 1 many 2 each -/
def m_are_wholes (F : Fn) : MS := (mRet (mAndV (mOp1 (opIsi .tuple) (mVar 0)) (mAndV (mOp2 (opEq false) (mOpN (un1 opLen) (mCons (mVar 0) mNil)) (mVar 1)) (mOpN (opBls fun bs => .bl (bs.all id)) (mCons (mLc false [2] (gNm 2) mYes (mCall F 11 [.at 0] (mCons (mVar 2) mNil)) (mIt (mVar 0))) mNil)))))
theorem e13 (F : Fn) : cSs C F 1000000 200 p13.ci p13.d.body = m_are_wholes F := by kernel_rfl
theorem b13 (F : Fn) : B 13 F = (2, 3, m_are_wholes F) := by rw [show B 13 F = (p13.ps.length, p13.N.length, cSs C F 1000000 200 p13.ci p13.d.body) by kernel_rfl, e13]; rfl
theorem c13 (n : Nat) (ds : List D) (st : Sto) : Fx (n + 1) 13 ds st = runB 2 3 (m_are_wholes (Fx n)) ds st := by rw [fx, fx]; show runB (B 13 _).1 (B 13 _).2.1 (B 13 _).2.2 ds st = _; rw [b13]
/-- slots: 0 one 1 two -/
def m_divisor_of (F : Fn) : MS := (mRet (mOpN opGcd (mCons (mVar 0) (mCons (mVar 1) mNil))))
theorem e14 (F : Fn) : cSs C F 1000000 200 p14.ci p14.d.body = m_divisor_of F := by kernel_rfl
theorem b14 (F : Fn) : B 14 F = (2, 2, m_divisor_of F) := by rw [show B 14 F = (p14.ps.length, p14.N.length, cSs C F 1000000 200 p14.ci p14.d.body) by kernel_rfl, e14]; rfl
theorem c14 (n : Nat) (ds : List D) (st : Sto) : Fx (n + 1) 14 ds st = runB 2 2 (m_divisor_of (Fx n)) ds st := by rw [fx, fx]; show runB (B 14 _).1 (B 14 _).2.1 (B 14 _).2.2 ds st = _; rw [b14]
/-- slots: 0 value -/
def m_is_ratio (F : Fn) : MS := (mRet (mAndV (mCall F 13 [.at 0, .at 1] (mCons (mVar 0) (mCons (mCst (.int 2)) mNil))) (mAndV (mOp2 (opCmp fun i j => decide (j < i)) (mOp2 opIx (mVar 0) (mCst (.int 1))) (mCst (.int 0))) (mOp2 (opEq false) (mCall F 14 [.at 0, .at 1] (mCons (mOp2 opIx (mVar 0) (mCst (.int 0))) (mCons (mOp2 opIx (mVar 0) (mCst (.int 1))) mNil))) (mCst (.int 1))))))
theorem e15 (F : Fn) : cSs C F 1000000 200 p15.ci p15.d.body = m_is_ratio F := by kernel_rfl
theorem b15 (F : Fn) : B 15 F = (1, 1, m_is_ratio F) := by rw [show B 15 F = (p15.ps.length, p15.N.length, cSs C F 1000000 200 p15.ci p15.d.body) by kernel_rfl, e15]; rfl
theorem c15 (n : Nat) (ds : List D) (st : Sto) : Fx (n + 1) 15 ds st = runB 1 1 (m_is_ratio (Fx n)) ds st := by rw [fx, fx]; show runB (B 15 _).1 (B 15 _).2.1 (B 15 _).2.2 ds st = _; rw [b15]
/-- slots: 0 value 1 many 2 each -/
def m_is_row_by (F : Fn) : MS := (mRet (mAndV (mOp1 (opIsi .tuple) (mVar 0)) (mAndV (mOp2 (opEq false) (mOpN (un1 opLen) (mCons (mVar 0) mNil)) (mVar 1)) (mOpN (opBls fun bs => .bl (bs.all id)) (mCons (mLc false [2] (gNm 2) mYes (mCall F 15 [.at 0] (mCons (mVar 2) mNil)) (mIt (mVar 0))) mNil)))))
theorem e16 (F : Fn) : cSs C F 1000000 200 p16.ci p16.d.body = m_is_row_by F := by kernel_rfl
theorem b16 (F : Fn) : B 16 F = (2, 3, m_is_row_by F) := by rw [show B 16 F = (p16.ps.length, p16.N.length, cSs C F 1000000 200 p16.ci p16.d.body) by kernel_rfl, e16]; rfl
theorem c16 (n : Nat) (ds : List D) (st : Sto) : Fx (n + 1) 16 ds st = runB 2 3 (m_is_row_by (Fx n)) ds st := by rw [fx, fx]; show runB (B 16 _).1 (B 16 _).2.1 (B 16 _).2.2 ds st = _; rw [b16]
/-- slots: 0 value 1 size -/
def m_is_wish (F : Fn) : MS := (mRet (mAndV (mOp1 (opIsi .tuple) (mVar 0)) (mAndV (mOp2 (opEq false) (mOpN (un1 opLen) (mCons (mVar 0) mNil)) (mCst (.int 2))) (mAndV (mCall F 16 [.at 0, .at 1] (mCons (mOp2 opIx (mVar 0) (mCst (.int 0))) (mCons (mVar 1) mNil))) (mCall F 15 [.at 0] (mCons (mOp2 opIx (mVar 0) (mCst (.int 1))) mNil))))))
theorem e17 (F : Fn) : cSs C F 1000000 200 p17.ci p17.d.body = m_is_wish F := by kernel_rfl
theorem b17 (F : Fn) : B 17 F = (2, 2, m_is_wish F) := by rw [show B 17 F = (p17.ps.length, p17.N.length, cSs C F 1000000 200 p17.ci p17.d.body) by kernel_rfl, e17]; rfl
theorem c17 (n : Nat) (ds : List D) (st : Sto) : Fx (n + 1) 17 ds st = runB 2 2 (m_is_wish (Fx n)) ds st := by rw [fx, fx]; show runB (B 17 _).1 (B 17 _).2.1 (B 17 _).2.2 ds st = _; rw [b17]
/-- slots: 0 value 1 most 2 each -/
def m_is_lot_by (F : Fn) : MS := (mSeq (mIfS (mOrT (mNotT (mTest (mOp1 (opIsi .tuple) (mVar 0)))) (mOrT (mTest (mOp2 (opEq true) (mOpN (un1 opLen) (mCons (mVar 0) mNil)) (mCst (.int 2)))) (mNotT (mTest (mCall F 12 [.at 0, .at 1, .at 2] (mCons (mOp2 opIx (mVar 0) (mCst (.int 0))) (mCons (mCst (.int 1)) (mCons (mCst (.int (12))) mNil))))))))
    (mRet (mCst (.bl false)))
    mPass)
    (mSeq (mIfS (mOrT (mNotT (mTest (mOp1 (opIsi .tuple) (mOp2 opIx (mVar 0) (mCst (.int 1)))))) (mTest (mOp2 (opCmp fun i j => decide (j < i)) (mOpN (un1 opLen) (mCons (mOp2 opIx (mVar 0) (mCst (.int 1))) mNil)) (mVar 1))))
    (mRet (mCst (.bl false)))
    mPass)
    (mRet (mOpN (opBls fun bs => .bl (bs.all id)) (mCons (mLc false [2] (gNm 2) mYes (mCall F 17 [.at 0, .at 1] (mCons (mVar 2) (mCons (mOp2 opIx (mVar 0) (mCst (.int 0))) mNil))) (mIt (mOp2 opIx (mVar 0) (mCst (.int 1))))) mNil)))))
theorem e18 (F : Fn) : cSs C F 1000000 200 p18.ci p18.d.body = m_is_lot_by F := by kernel_rfl
theorem b18 (F : Fn) : B 18 F = (2, 3, m_is_lot_by F) := by rw [show B 18 F = (p18.ps.length, p18.N.length, cSs C F 1000000 200 p18.ci p18.d.body) by kernel_rfl, e18]; rfl
theorem c18 (n : Nat) (ds : List D) (st : Sto) : Fx (n + 1) 18 ds st = runB 2 3 (m_is_lot_by (Fx n)) ds st := by rw [fx, fx]; show runB (B 18 _).1 (B 18 _).2.1 (B 18 _).2.2 ds st = _; rw [b18]
/-- slots: 0 value -/
def m_check_lot (F : Fn) : MS := (mIfS (mNotT (mTest (mCall F 18 [.at 0, .int (100)] (mCons (mVar 0) mNil))))
    mBad
    mPass)
theorem e19 (F : Fn) : cSs C F 1000000 200 p19.ci p19.d.body = m_check_lot F := by kernel_rfl
theorem b19 (F : Fn) : B 19 F = (1, 1, m_check_lot F) := by rw [show B 19 F = (p19.ps.length, p19.N.length, cSs C F 1000000 200 p19.ci p19.d.body) by kernel_rfl, e19]; rfl
theorem c19 (n : Nat) (ds : List D) (st : Sto) : Fx (n + 1) 19 ds st = runB 1 1 (m_check_lot (Fx n)) ds st := by rw [fx, fx]; show runB (B 19 _).1 (B 19 _).2.1 (B 19 _).2.2 ds st = _; rw [b19]
/-- slots: 0 top 1 low 2 part -/
def m_ratio (F : Fn) : MS := (mSeq (mAsg (gNm 2) (mIf (mTest (mOp2 (opCmp fun i j => decide (j < i)) (mVar 1) (mCst (.int 0)))) (mCall F 14 [.at 0, .at 1] (mCons (mVar 0) (mCons (mVar 1) mNil))) (mOp1 opNeg (mCall F 14 [.at 0, .at 1] (mCons (mVar 0) (mCons (mVar 1) mNil))))))
    (mRet (mOpN opTup (mCons (mOp2 opDiv (mVar 0) (mVar 2)) (mCons (mOp2 opDiv (mVar 1) (mVar 2)) mNil)))))
theorem e20 (F : Fn) : cSs C F 1000000 200 p20.ci p20.d.body = m_ratio F := by kernel_rfl
theorem b20 (F : Fn) : B 20 F = (2, 3, m_ratio F) := by rw [show B 20 F = (p20.ps.length, p20.N.length, cSs C F 1000000 200 p20.ci p20.d.body) by kernel_rfl, e20]; rfl
theorem c20 (n : Nat) (ds : List D) (st : Sto) : Fx (n + 1) 20 ds st = runB 2 3 (m_ratio (Fx n)) ds st := by rw [fx, fx]; show runB (B 20 _).1 (B 20 _).2.1 (B 20 _).2.2 ds st = _; rw [b20]
/-- slots: 0 one 1 two -/
def m_times (F : Fn) : MS := (mRet (mCall F 20 [.at 0, .at 1] (mCons (mOp2 (opMul false) (mOp2 opIx (mVar 0) (mCst (.int 0))) (mOp2 opIx (mVar 1) (mCst (.int 0)))) (mCons (mOp2 (opMul false) (mOp2 opIx (mVar 0) (mCst (.int 1))) (mOp2 opIx (mVar 1) (mCst (.int 1)))) mNil))))
theorem e21 (F : Fn) : cSs C F 1000000 200 p21.ci p21.d.body = m_times F := by kernel_rfl
theorem b21 (F : Fn) : B 21 F = (2, 2, m_times F) := by rw [show B 21 F = (p21.ps.length, p21.N.length, cSs C F 1000000 200 p21.ci p21.d.body) by kernel_rfl, e21]; rfl
theorem c21 (n : Nat) (ds : List D) (st : Sto) : Fx (n + 1) 21 ds st = runB 2 2 (m_times (Fx n)) ds st := by rw [fx, fx]; show runB (B 21 _).1 (B 21 _).2.1 (B 21 _).2.2 ds st = _; rw [b21]
/-- slots: 0 many -/
def m_noughts (F : Fn) : MS := (mRet (mOp2 (opMul false) (mOpN opTup (mCons (mCst (.tup [(.int (0)), (.int (1))])) mNil)) (mVar 0)))
theorem e22 (F : Fn) : cSs C F 1000000 200 p22.ci p22.d.body = m_noughts F := by kernel_rfl
theorem b22 (F : Fn) : B 22 F = (1, 1, m_noughts F) := by rw [show B 22 F = (p22.ps.length, p22.N.length, cSs C F 1000000 200 p22.ci p22.d.body) by kernel_rfl, e22]; rfl
theorem c22 (n : Nat) (ds : List D) (st : Sto) : Fx (n + 1) 22 ds st = runB 1 1 (m_noughts (Fx n)) ds st := by rw [fx, fx]; show runB (B 22 _).1 (B 22 _).2.1 (B 22 _).2.2 ds st = _; rw [b22]
/-- slots: 0 many 1 at -/
def m_unit (F : Fn) : MS := (mRet (mOp2 (opAdd false) (mOp2 (opAdd false) (mCall F 22 [.at 0] (mCons (mVar 1) mNil)) (mOpN opTup (mCons (mCst (.tup [(.int (1)), (.int (1))])) mNil))) (mCall F 22 [.at 0] (mCons (mOp2 opSub (mOp2 opSub (mVar 0) (mCst (.int 1))) (mVar 1)) mNil))))
theorem e23 (F : Fn) : cSs C F 1000000 200 p23.ci p23.d.body = m_unit F := by kernel_rfl
theorem b23 (F : Fn) : B 23 F = (2, 2, m_unit F) := by rw [show B 23 F = (p23.ps.length, p23.N.length, cSs C F 1000000 200 p23.ci p23.d.body) by kernel_rfl, e23]; rfl
theorem c23 (n : Nat) (ds : List D) (st : Sto) : Fx (n + 1) 23 ds st = runB 2 2 (m_unit (Fx n)) ds st := by rw [fx, fx]; show runB (B 23 _).1 (B 23 _).2.1 (B 23 _).2.2 ds st = _; rw [b23]
/-- slots: 0 columns 1 right 2 many 3 signs 4 board 5 at 6 sign 7 row 8 number 9 column -/
def m_first_board (F : Fn) : MS := (mSeq (mAsg (gNm 2) (mOpN (un1 opLen) (mCons (mVar 1) mNil)))
    (mSeq (mAsg (gNm 3) (mLc false [8] (gNm 8) mYes (mIf (mTest (mOp2 (opCmp fun i j => decide (i < j)) (mOp2 opIx (mVar 8) (mCst (.int 0))) (mCst (.int 0)))) (mCst (.tup [(.int (-1)), (.int (1))])) (mCst (.tup [(.int (1)), (.int (1))]))) (mIt (mVar 1))))
    (mSeq (mAsg (gNm 4) (mOpN (opLst true) mNil))
    (mSeq (mFor (gTp 2 (gCons (gNm 5) (gCons (gNm 6) gNil))) (mEn (mCons (mVar 3) mNil))
    (mSeq (mAsg (gNm 7) (mOpN (un1 opTupOf) (mCons (mLc false [9] (gNm 9) mYes (mCall F 21 [.at 0, .at 1] (mCons (mOp2 opIx (mVar 9) (mVar 5)) (mCons (mVar 6) mNil))) (mIt (mVar 0))) mNil)))
    (mExp (mMt opApp (mVar 4) (mOp2 (opAdd false) (mOp2 (opAdd false) (mVar 7) (mCall F 23 [.at 0, .at 1] (mCons (mVar 2) (mCons (mVar 5) mNil)))) (mOpN opTup (mCons (mCall F 21 [.at 0, .at 1] (mCons (mOp2 opIx (mVar 1) (mVar 5)) (mCons (mVar 6) mNil))) mNil)))))))
    (mRet (mOpN opTup (mCons (mVar 4) (mCons (mVar 3) mNil))))))))
theorem e24 (F : Fn) : cSs C F 1000000 200 p24.ci p24.d.body = m_first_board F := by kernel_rfl
theorem b24 (F : Fn) : B 24 F = (2, 10, m_first_board F) := by rw [show B 24 F = (p24.ps.length, p24.N.length, cSs C F 1000000 200 p24.ci p24.d.body) by kernel_rfl, e24]; rfl
theorem c24 (n : Nat) (ds : List D) (st : Sto) : Fx (n + 1) 24 ds st = runB 2 10 (m_first_board (Fx n)) ds st := by rw [fx, fx]; show runB (B 24 _).1 (B 24 _).2.1 (B 24 _).2.2 ds st = _; rw [b24]
/-- slots: 0 one 1 two -/
def m_minus (F : Fn) : MS := (mRet (mCall F 20 [.at 0, .at 1] (mCons (mOp2 opSub (mOp2 (opMul false) (mOp2 opIx (mVar 0) (mCst (.int 0))) (mOp2 opIx (mVar 1) (mCst (.int 1)))) (mOp2 (opMul false) (mOp2 opIx (mVar 1) (mCst (.int 0))) (mOp2 opIx (mVar 0) (mCst (.int 1))))) (mCons (mOp2 (opMul false) (mOp2 opIx (mVar 0) (mCst (.int 1))) (mOp2 opIx (mVar 1) (mCst (.int 1)))) mNil))))
theorem e25 (F : Fn) : cSs C F 1000000 200 p25.ci p25.d.body = m_minus F := by kernel_rfl
theorem b25 (F : Fn) : B 25 F = (2, 2, m_minus F) := by rw [show B 25 F = (p25.ps.length, p25.N.length, cSs C F 1000000 200 p25.ci p25.d.body) by kernel_rfl, e25]; rfl
theorem c25 (n : Nat) (ds : List D) (st : Sto) : Fx (n + 1) 25 ds st = runB 2 2 (m_minus (Fx n)) ds st := by rw [fx, fx]; show runB (B 25 _).1 (B 25 _).2.1 (B 25 _).2.2 ds st = _; rw [b25]
/-- slots: 0 board 1 basis 2 costs 3 found 4 row 5 column 6 gap 7 number -/
def m_gaps (F : Fn) : MS := (mSeq (mAsg (gNm 3) (mOpN (un1 (opLstOf false)) (mCons (mVar 2) mNil)))
    (mSeq (mFor (gTp 2 (gCons (gNm 4) (gCons (gNm 5) gNil))) (mZp (mCons (mVar 0) (mCons (mVar 1) mNil)))
    (mIfS (mTest (mOp2 (opEq true) (mOp2 opIx (mOp2 opIx (mVar 2) (mVar 5)) (mCst (.int 0))) (mCst (.int 0))))
    (mAsg (gNm 3) (mLc false [6, 7] (gTp 2 (gCons (gNm 6) (gCons (gNm 7) gNil))) mYes (mCall F 25 [.at 0, .at 1] (mCons (mVar 6) (mCons (mCall F 21 [.at 0, .at 1] (mCons (mOp2 opIx (mVar 2) (mVar 5)) (mCons (mVar 7) mNil))) mNil))) (mZp (mCons (mVar 3) (mCons (mVar 4) mNil)))))
    mPass))
    (mRet (mVar 3))))
theorem e26 (F : Fn) : cSs C F 1000000 200 p26.ci p26.d.body = m_gaps F := by kernel_rfl
theorem b26 (F : Fn) : B 26 F = (3, 8, m_gaps F) := by rw [show B 26 F = (p26.ps.length, p26.N.length, cSs C F 1000000 200 p26.ci p26.d.body) by kernel_rfl, e26]; rfl
theorem c26 (n : Nat) (ds : List D) (st : Sto) : Fx (n + 1) 26 ds st = runB 3 8 (m_gaps (Fx n)) ds st := by rw [fx, fx]; show runB (B 26 _).1 (B 26 _).2.1 (B 26 _).2.2 ds st = _; rw [b26]
/-- slots: 0 row 1 number 2 each -/
def m_scaled (F : Fn) : MS := (mRet (mOpN (un1 opTupOf) (mCons (mLc false [2] (gNm 2) mYes (mCall F 21 [.at 0, .at 1] (mCons (mVar 2) (mCons (mVar 1) mNil))) (mIt (mVar 0))) mNil)))
theorem e27 (F : Fn) : cSs C F 1000000 200 p27.ci p27.d.body = m_scaled F := by kernel_rfl
theorem b27 (F : Fn) : B 27 F = (2, 3, m_scaled F) := by rw [show B 27 F = (p27.ps.length, p27.N.length, cSs C F 1000000 200 p27.ci p27.d.body) by kernel_rfl, e27]; rfl
theorem c27 (n : Nat) (ds : List D) (st : Sto) : Fx (n + 1) 27 ds st = runB 2 3 (m_scaled (Fx n)) ds st := by rw [fx, fx]; show runB (B 27 _).1 (B 27 _).2.1 (B 27 _).2.2 ds st = _; rw [b27]
/-- slots: 0 one 1 two -/
def m_over (F : Fn) : MS := (mRet (mCall F 20 [.at 0, .at 1] (mCons (mOp2 (opMul false) (mOp2 opIx (mVar 0) (mCst (.int 0))) (mOp2 opIx (mVar 1) (mCst (.int 1)))) (mCons (mOp2 (opMul false) (mOp2 opIx (mVar 0) (mCst (.int 1))) (mOp2 opIx (mVar 1) (mCst (.int 0)))) mNil))))
theorem e28 (F : Fn) : cSs C F 1000000 200 p28.ci p28.d.body = m_over F := by kernel_rfl
theorem b28 (F : Fn) : B 28 F = (2, 2, m_over F) := by rw [show B 28 F = (p28.ps.length, p28.N.length, cSs C F 1000000 200 p28.ci p28.d.body) by kernel_rfl, e28]; rfl
theorem c28 (n : Nat) (ds : List D) (st : Sto) : Fx (n + 1) 28 ds st = runB 2 2 (m_over (Fx n)) ds st := by rw [fx, fx]; show runB (B 28 _).1 (B 28 _).2.1 (B 28 _).2.2 ds st = _; rw [b28]
/-- slots: 0 board 1 at 2 column 3 lead 4 found 5 place 6 row 7 one 8 two -/
def m_turned_about (F : Fn) : MS := (mSeq (mAsg (gNm 3) (mCall F 27 [.at 0, .at 1] (mCons (mOp2 opIx (mVar 0) (mVar 1)) (mCons (mCall F 28 [.at 0, .at 1] (mCons (mCst (.tup [(.int (1)), (.int (1))])) (mCons (mOp2 opIx (mOp2 opIx (mVar 0) (mVar 1)) (mVar 2)) mNil))) mNil))))
    (mSeq (mAsg (gNm 4) (mOpN (opLst true) mNil))
    (mSeq (mFor (gTp 2 (gCons (gNm 5) (gCons (gNm 6) gNil))) (mEn (mCons (mVar 0) mNil))
    (mIfS (mTest (mOp2 (opEq false) (mVar 5) (mVar 1)))
    (mExp (mMt opApp (mVar 4) (mVar 3)))
    (mIfS (mTest (mOp2 (opEq false) (mOp2 opIx (mOp2 opIx (mVar 6) (mVar 2)) (mCst (.int 0))) (mCst (.int 0))))
    (mExp (mMt opApp (mVar 4) (mVar 6)))
    (mExp (mMt opApp (mVar 4) (mOpN (un1 opTupOf) (mCons (mLc false [7, 8] (gTp 2 (gCons (gNm 7) (gCons (gNm 8) gNil))) mYes (mCall F 25 [.at 0, .at 1] (mCons (mVar 7) (mCons (mCall F 21 [.at 0, .at 1] (mCons (mOp2 opIx (mVar 6) (mVar 2)) (mCons (mVar 8) mNil))) mNil))) (mZp (mCons (mVar 6) (mCons (mVar 3) mNil)))) mNil)))))))
    (mRet (mVar 4)))))
theorem e29 (F : Fn) : cSs C F 1000000 200 p29.ci p29.d.body = m_turned_about F := by kernel_rfl
theorem b29 (F : Fn) : B 29 F = (3, 9, m_turned_about F) := by rw [show B 29 F = (p29.ps.length, p29.N.length, cSs C F 1000000 200 p29.ci p29.d.body) by kernel_rfl, e29]; rfl
theorem c29 (n : Nat) (ds : List D) (st : Sto) : Fx (n + 1) 29 ds st = runB 3 9 (m_turned_about (Fx n)) ds st := by rw [fx, fx]; show runB (B 29 _).1 (B 29 _).2.1 (B 29 _).2.2 ds st = _; rw [b29]
/-- slots: 0 one 1 two -/
def m_is_below (F : Fn) : MS := (mRet (mOp2 (opCmp fun i j => decide (i < j)) (mOp2 (opMul false) (mOp2 opIx (mVar 0) (mCst (.int 0))) (mOp2 opIx (mVar 1) (mCst (.int 1)))) (mOp2 (opMul false) (mOp2 opIx (mVar 1) (mCst (.int 0))) (mOp2 opIx (mVar 0) (mCst (.int 1))))))
theorem e30 (F : Fn) : cSs C F 1000000 200 p30.ci p30.d.body = m_is_below F := by kernel_rfl
theorem b30 (F : Fn) : B 30 F = (2, 2, m_is_below F) := by rw [show B 30 F = (p30.ps.length, p30.N.length, cSs C F 1000000 200 p30.ci p30.d.body) by kernel_rfl, e30]; rfl
theorem c30 (n : Nat) (ds : List D) (st : Sto) : Fx (n + 1) 30 ds st = runB 2 2 (m_is_below (Fx n)) ds st := by rw [fx, fx]; show runB (B 30 _).1 (B 30 _).2.1 (B 30 _).2.2 ds st = _; rw [b30]
/-- slots: 0 board 1 basis 2 column 3 found 4 at 5 row 6 key -/
def m_leaving (F : Fn) : MS := (mSeq (mAsg (gNm 3) (mOpN (opLst false) mNil))
    (mSeq (mFor (gTp 2 (gCons (gNm 4) (gCons (gNm 5) gNil))) (mEn (mCons (mVar 0) mNil))
    (mIfS (mTest (mOp2 (opCmp fun i j => decide (j < i)) (mOp2 opIx (mOp2 opIx (mVar 5) (mVar 2)) (mCst (.int 0))) (mCst (.int 0))))
    (mSeq (mAsg (gNm 6) (mCall F 28 [.at 0, .at 1] (mCons (mOp2 opIx (mVar 5) (mOp1 opNeg (mCst (.int 1)))) (mCons (mOp2 opIx (mVar 5) (mVar 2)) mNil))))
    (mIfS (mOrT (mTest (mOp2 (opEq false) (mVar 3) (mOpN (opLst false) mNil))) (mOrT (mTest (mCall F 30 [.at 0, .at 1] (mCons (mVar 6) (mCons (mOp2 opIx (mVar 3) (mCst (.int 0))) mNil)))) (mAndT (mTest (mOp2 (opEq false) (mVar 6) (mOp2 opIx (mVar 3) (mCst (.int 0))))) (mTest (mOp2 (opCmp fun i j => decide (i < j)) (mOp2 opIx (mVar 1) (mVar 4)) (mOp2 opIx (mVar 1) (mOp2 opIx (mVar 3) (mCst (.int 1)))))))))
    (mAsg (gNm 3) (mOpN (opLst false) (mCons (mVar 6) (mCons (mVar 4) mNil))))
    mPass))
    mPass))
    (mRet (mSl false (mVar 3) (some (mCst (.int 1))) none))))
theorem e31 (F : Fn) : cSs C F 1000000 200 p31.ci p31.d.body = m_leaving F := by kernel_rfl
theorem b31 (F : Fn) : B 31 F = (3, 7, m_leaving F) := by rw [show B 31 F = (p31.ps.length, p31.N.length, cSs C F 1000000 200 p31.ci p31.d.body) by kernel_rfl, e31]; rfl
theorem c31 (n : Nat) (ds : List D) (st : Sto) : Fx (n + 1) 31 ds st = runB 3 7 (m_leaving (Fx n)) ds st := by rw [fx, fx]; show runB (B 31 _).1 (B 31 _).2.1 (B 31 _).2.2 ds st = _; rw [b31]
/-- slots: 0 board 1 basis 2 costs 3 many 4 left 5 helping 6 at 7 column -/
def m_descended (F : Fn) : MS := (mWhl 1000000 (mTest (mCst (.bl true)))
    (mSeq (mAsg (gNm 4) (mCall F 26 [.at 0, .at 1, .at 2] (mCons (mVar 0) (mCons (mVar 1) (mCons (mVar 2) mNil)))))
    (mSeq (mAsg (gNm 5) (mLc false [7] (gNm 7) (mTest (mOp2 (opCmp fun i j => decide (i < j)) (mOp2 opIx (mOp2 opIx (mVar 4) (mVar 7)) (mCst (.int 0))) (mCst (.int 0)))) (mVar 7) (mRg (mCons (mVar 3) mNil))))
    (mSeq (mAsg (gNm 6) (mIf (mTest (mOp2 (opEq true) (mVar 5) (mOpN (opLst false) mNil))) (mCall F 31 [.at 0, .at 1, .at 2] (mCons (mVar 0) (mCons (mVar 1) (mCons (mOp2 opIx (mVar 5) (mCst (.int 0))) mNil)))) (mOpN (opLst false) mNil)))
    (mSeq (mIfS (mTest (mOp2 (opEq false) (mVar 6) (mOpN (opLst false) mNil)))
    (mRet (mOpN opTup (mCons (mVar 0) (mCons (mVar 1) (mCons (mVar 4) mNil)))))
    mPass)
    (mSeq (mAsg (gNm 0) (mCall F 29 [.at 0, .at 1, .at 2] (mCons (mVar 0) (mCons (mOp2 opIx (mVar 6) (mCst (.int 0))) (mCons (mOp2 opIx (mVar 5) (mCst (.int 0))) mNil)))))
    (mAsg (gNm 1) (mOp2 (opAdd false) (mOp2 (opAdd false) (mSl false (mVar 1) none (some (mOp2 opIx (mVar 6) (mCst (.int 0))))) (mOpN (opLst false) (mCons (mOp2 opIx (mVar 5) (mCst (.int 0))) mNil))) (mSl false (mVar 1) (some (mOp2 (opAdd false) (mOp2 opIx (mVar 6) (mCst (.int 0))) (mCst (.int 1)))) none)))))))))
theorem e32 (F : Fn) : cSs C F 1000000 200 p32.ci p32.d.body = m_descended F := by kernel_rfl
theorem b32 (F : Fn) : B 32 F = (4, 8, m_descended F) := by rw [show B 32 F = (p32.ps.length, p32.N.length, cSs C F 1000000 200 p32.ci p32.d.body) by kernel_rfl, e32]; rfl
theorem c32 (n : Nat) (ds : List D) (st : Sto) : Fx (n + 1) 32 ds st = runB 4 8 (m_descended (Fx n)) ds st := by rw [fx, fx]; show runB (B 32 _).1 (B 32 _).2.1 (B 32 _).2.2 ds st = _; rw [b32]
/-- slots: 0 board 1 basis 2 many 3 at 4 others 5 column -/
def m_driven_out (F : Fn) : MS := (mSeq (mFor (gNm 3) (mRg (mCons (mOpN (un1 opLen) (mCons (mVar 1) mNil)) mNil))
    (mIfS (mTest (mOp2 (opCmp fun i j => decide (j ≤ i)) (mOp2 opIx (mVar 1) (mVar 3)) (mVar 2)))
    (mSeq (mAsg (gNm 4) (mLc false [5] (gNm 5) (mTest (mOp2 (opEq true) (mOp2 opIx (mOp2 opIx (mOp2 opIx (mVar 0) (mVar 3)) (mVar 5)) (mCst (.int 0))) (mCst (.int 0)))) (mVar 5) (mRg (mCons (mVar 2) mNil))))
    (mIfS (mTest (mOp2 (opEq true) (mVar 4) (mOpN (opLst false) mNil)))
    (mSeq (mAsg (gNm 0) (mCall F 29 [.at 0, .at 1, .at 2] (mCons (mVar 0) (mCons (mVar 3) (mCons (mOp2 opIx (mVar 4) (mCst (.int 0))) mNil)))))
    (mAsg (gNm 1) (mOp2 (opAdd false) (mOp2 (opAdd false) (mSl false (mVar 1) none (some (mVar 3))) (mOpN (opLst false) (mCons (mOp2 opIx (mVar 4) (mCst (.int 0))) mNil))) (mSl false (mVar 1) (some (mOp2 (opAdd false) (mVar 3) (mCst (.int 1)))) none))))
    mPass))
    mPass))
    (mRet (mOpN opTup (mCons (mVar 0) (mCons (mVar 1) mNil)))))
theorem e33 (F : Fn) : cSs C F 1000000 200 p33.ci p33.d.body = m_driven_out F := by kernel_rfl
theorem b33 (F : Fn) : B 33 F = (3, 6, m_driven_out F) := by rw [show B 33 F = (p33.ps.length, p33.N.length, cSs C F 1000000 200 p33.ci p33.d.body) by kernel_rfl, e33]; rfl
theorem c33 (n : Nat) (ds : List D) (st : Sto) : Fx (n + 1) 33 ds st = runB 3 6 (m_driven_out (Fx n)) ds st := by rw [fx, fx]; show runB (B 33 _).1 (B 33 _).2.1 (B 33 _).2.2 ds st = _; rw [b33]
/-- slots: 0 board 1 basis 2 many 3 found 4 row 5 column -/
def m_weights_by (F : Fn) : MS := (mSeq (mAsg (gNm 3) (mOpN (un1 (opLstOf true)) (mCons (mCall F 22 [.at 0] (mCons (mVar 2) mNil)) mNil)))
    (mSeq (mFor (gTp 2 (gCons (gNm 4) (gCons (gNm 5) gNil))) (mZp (mCons (mVar 0) (mCons (mVar 1) mNil)))
    (mIfS (mTest (mOp2 (opCmp fun i j => decide (i < j)) (mVar 5) (mVar 2)))
    (mAsg (gSub (mVar 3) (mVar 5)) (mOp2 opIx (mVar 4) (mOp1 opNeg (mCst (.int 1)))))
    mPass))
    (mRet (mOpN (un1 opTupOf) (mCons (mVar 3) mNil)))))
theorem e34 (F : Fn) : cSs C F 1000000 200 p34.ci p34.d.body = m_weights_by F := by kernel_rfl
theorem b34 (F : Fn) : B 34 F = (3, 6, m_weights_by F) := by rw [show B 34 F = (p34.ps.length, p34.N.length, cSs C F 1000000 200 p34.ci p34.d.body) by kernel_rfl, e34]; rfl
theorem c34 (n : Nat) (ds : List D) (st : Sto) : Fx (n + 1) 34 ds st = runB 3 6 (m_weights_by (Fx n)) ds st := by rw [fx, fx]; show runB (B 34 _).1 (B 34 _).2.1 (B 34 _).2.2 ds st = _; rw [b34]
/-- slots: 0 left 1 signs 2 costs 3 many 4 at 5 sign -/
def m_prices (F : Fn) : MS := (mRet (mOpN (un1 opTupOf) (mCons (mLc false [4, 5] (gTp 2 (gCons (gNm 4) (gCons (gNm 5) gNil))) mYes (mCall F 21 [.at 0, .at 1] (mCons (mVar 5) (mCons (mCall F 25 [.at 0, .at 1] (mCons (mOp2 opIx (mVar 2) (mOp2 (opAdd false) (mVar 3) (mVar 4))) (mCons (mOp2 opIx (mVar 0) (mOp2 (opAdd false) (mVar 3) (mVar 4))) mNil))) mNil))) (mEn (mCons (mVar 1) mNil))) mNil)))
theorem e35 (F : Fn) : cSs C F 1000000 200 p35.ci p35.d.body = m_prices F := by kernel_rfl
theorem b35 (F : Fn) : B 35 F = (4, 6, m_prices F) := by rw [show B 35 F = (p35.ps.length, p35.N.length, cSs C F 1000000 200 p35.ci p35.d.body) by kernel_rfl, e35]; rfl
theorem c35 (n : Nat) (ds : List D) (st : Sto) : Fx (n + 1) 35 ds st = runB 4 6 (m_prices (Fx n)) ds st := by rw [fx, fx]; show runB (B 35 _).1 (B 35 _).2.1 (B 35 _).2.2 ds st = _; rw [b35]
/-- slots: 0 columns 1 right 2 costs 3 costing 4 many 5 rows 6 board 7 signs 8 basis 9 left 10 row 11 column -/
def m_least_by (F : Fn) : MS := (mSeq (mAsg (gTp 2 (gCons (gNm 4) (gCons (gNm 5) gNil))) (mOpN opTup (mCons (mOpN (un1 opLen) (mCons (mVar 0) mNil)) (mCons (mOpN (un1 opLen) (mCons (mVar 1) mNil)) mNil))))
    (mSeq (mAsg (gTp 2 (gCons (gNm 6) (gCons (gNm 7) gNil))) (mCall F 24 [.at 0, .at 1] (mCons (mVar 0) (mCons (mVar 1) mNil))))
    (mSeq (mAsg (gNm 3) (mOp2 (opAdd false) (mCall F 22 [.at 0] (mCons (mVar 4) mNil)) (mOp2 (opMul false) (mOpN opTup (mCons (mCst (.tup [(.int (1)), (.int (1))])) mNil)) (mVar 5))))
    (mSeq (mAsg (gTp 3 (gCons (gNm 6) (gCons (gNm 8) (gCons (gNm 9) gNil)))) (mCall F 32 [.at 0, .at 1, .at 2, .at 3] (mCons (mVar 6) (mCons (mLrg false (mCons (mVar 4) (mCons (mOp2 (opAdd false) (mVar 4) (mVar 5)) mNil))) (mCons (mVar 3) (mCons (mVar 4) mNil))))))
    (mSeq (mIfS (mTest (mOpN (opBls fun bs => .bl (bs.any id)) (mCons (mLc false [10, 11] (gTp 2 (gCons (gNm 10) (gCons (gNm 11) gNil))) mYes (mAndV (mOp2 (opCmp fun i j => decide (j ≤ i)) (mVar 11) (mVar 4)) (mOp2 (opCmp fun i j => decide (j < i)) (mOp2 opIx (mOp2 opIx (mVar 10) (mOp1 opNeg (mCst (.int 1)))) (mCst (.int 0))) (mCst (.int 0)))) (mZp (mCons (mVar 6) (mCons (mVar 8) mNil)))) mNil)))
    (mRet (mOpN opTup (mCons (mOpN opTup mNil) (mCons (mCall F 35 [.at 0, .at 1, .at 2, .at 3] (mCons (mVar 9) (mCons (mVar 7) (mCons (mVar 3) (mCons (mVar 4) mNil))))) mNil))))
    mPass)
    (mSeq (mAsg (gTp 2 (gCons (gNm 6) (gCons (gNm 8) gNil))) (mCall F 33 [.at 0, .at 1, .at 2] (mCons (mVar 6) (mCons (mVar 8) (mCons (mVar 4) mNil)))))
    (mSeq (mAsg (gNm 3) (mOp2 (opAdd false) (mOpN (un1 opTupOf) (mCons (mVar 2) mNil)) (mCall F 22 [.at 0] (mCons (mVar 5) mNil))))
    (mSeq (mAsg (gTp 3 (gCons (gNm 6) (gCons (gNm 8) (gCons (gNm 9) gNil)))) (mCall F 32 [.at 0, .at 1, .at 2, .at 3] (mCons (mVar 6) (mCons (mVar 8) (mCons (mVar 3) (mCons (mVar 4) mNil))))))
    (mRet (mOpN opTup (mCons (mCall F 34 [.at 0, .at 1, .at 2] (mCons (mVar 6) (mCons (mVar 8) (mCons (mVar 4) mNil)))) (mCons (mCall F 35 [.at 0, .at 1, .at 2, .at 3] (mCons (mVar 9) (mCons (mVar 7) (mCons (mVar 3) (mCons (mVar 4) mNil))))) mNil))))))))))))
theorem e36 (F : Fn) : cSs C F 1000000 200 p36.ci p36.d.body = m_least_by F := by kernel_rfl
theorem b36 (F : Fn) : B 36 F = (3, 12, m_least_by F) := by rw [show B 36 F = (p36.ps.length, p36.N.length, cSs C F 1000000 200 p36.ci p36.d.body) by kernel_rfl, e36]; rfl
theorem c36 (n : Nat) (ds : List D) (st : Sto) : Fx (n + 1) 36 ds st = runB 3 12 (m_least_by (Fx n)) ds st := by rw [fx, fx]; show runB (B 36 _).1 (B 36 _).2.1 (B 36 _).2.2 ds st = _; rw [b36]
/-- slots: 0 one -/
def m_opposite (F : Fn) : MS := (mRet (mOpN opTup (mCons (mOp1 opNeg (mOp2 opIx (mVar 0) (mCst (.int 0)))) (mCons (mOp2 opIx (mVar 0) (mCst (.int 1))) mNil))))
theorem e37 (F : Fn) : cSs C F 1000000 200 p37.ci p37.d.body = m_opposite F := by kernel_rfl
theorem b37 (F : Fn) : B 37 F = (1, 1, m_opposite F) := by rw [show B 37 F = (p37.ps.length, p37.N.length, cSs C F 1000000 200 p37.ci p37.d.body) by kernel_rfl, e37]; rfl
theorem c37 (n : Nat) (ds : List D) (st : Sto) : Fx (n + 1) 37 ds st = runB 1 1 (m_opposite (Fx n)) ds st := by rw [fx, fx]; show runB (B 37 _).1 (B 37 _).2.1 (B 37 _).2.2 ds st = _; rw [b37]
/-- slots: 0 row 1 each -/
def m_turned (F : Fn) : MS := (mRet (mOpN (un1 opTupOf) (mCons (mLc false [1] (gNm 1) mYes (mCall F 37 [.at 0] (mCons (mVar 1) mNil)) (mIt (mVar 0))) mNil)))
theorem e38 (F : Fn) : cSs C F 1000000 200 p38.ci p38.d.body = m_turned F := by kernel_rfl
theorem b38 (F : Fn) : B 38 F = (1, 2, m_turned F) := by rw [show B 38 F = (p38.ps.length, p38.N.length, cSs C F 1000000 200 p38.ci p38.d.body) by kernel_rfl, e38]; rfl
theorem c38 (n : Nat) (ds : List D) (st : Sto) : Fx (n + 1) 38 ds st = runB 1 2 (m_turned (Fx n)) ds st := by rw [fx, fx]; show runB (B 38 _).1 (B 38 _).2.1 (B 38 _).2.2 ds st = _; rw [b38]
/-- slots: 0 rows 1 bounds 2 size 3 columns 4 found 5 price 6 row 7 bound 8 each -/
def m_void_by (F : Fn) : MS := (mSeq (mAsg (gNm 3) (mLc false [6, 7] (gTp 2 (gCons (gNm 6) (gCons (gNm 7) gNil))) mYes (mOp2 (opAdd false) (mVar 6) (mOpN opTup (mCons (mVar 7) mNil))) (mZp (mCons (mVar 0) (mCons (mVar 1) mNil)))))
    (mSeq (mAsg (gTp 2 (gCons (gNm 4) (gCons (gNm 5) gNil))) (mCall F 36 [.at 0, .at 1, .at 2] (mCons (mVar 3) (mCons (mOp2 (opAdd false) (mCall F 22 [.at 0] (mCons (mVar 2) mNil)) (mOpN opTup (mCons (mCst (.tup [(.int (-1)), (.int (1))])) mNil))) (mCons (mCall F 22 [.at 0] (mCons (mOpN (un1 opLen) (mCons (mVar 3) mNil)) mNil)) mNil)))))
    (mSeq (mIfS (mTest (mOp2 (opEq true) (mVar 4) (mOpN opTup mNil)))
    (mRet (mOpN opTup (mCons (mVar 4) (mCons (mOpN opTup mNil) mNil))))
    mPass)
    (mRet (mOpN opTup (mCons (mOpN opTup mNil) (mCons (mOpN (un1 opTupOf) (mCons (mLc false [8] (gNm 8) mYes (mCall F 28 [.at 0, .at 1] (mCons (mVar 8) (mCons (mOp2 opIx (mVar 5) (mVar 2)) mNil))) (mIt (mCall F 38 [.at 0] (mCons (mSl false (mVar 5) none (some (mVar 2))) mNil)))) mNil)) mNil)))))))
theorem e39 (F : Fn) : cSs C F 1000000 200 p39.ci p39.d.body = m_void_by F := by kernel_rfl
theorem b39 (F : Fn) : B 39 F = (3, 9, m_void_by F) := by rw [show B 39 F = (p39.ps.length, p39.N.length, cSs C F 1000000 200 p39.ci p39.d.body) by kernel_rfl, e39]; rfl
theorem c39 (n : Nat) (ds : List D) (st : Sto) : Fx (n + 1) 39 ds st = runB 3 9 (m_void_by (Fx n)) ds st := by rw [fx, fx]; show runB (B 39 _).1 (B 39 _).2.1 (B 39 _).2.2 ds st = _; rw [b39]
/-- slots: 0 lot 1 row 2 bound -/
def m_rows_in (F : Fn) : MS := (mRet (mLc false [1, 2] (gTp 2 (gCons (gNm 1) (gCons (gNm 2) gNil))) mYes (mVar 1) (mIt (mOp2 opIx (mVar 0) (mCst (.int 1))))))
theorem e40 (F : Fn) : cSs C F 1000000 200 p40.ci p40.d.body = m_rows_in F := by kernel_rfl
theorem b40 (F : Fn) : B 40 F = (1, 3, m_rows_in F) := by rw [show B 40 F = (p40.ps.length, p40.N.length, cSs C F 1000000 200 p40.ci p40.d.body) by kernel_rfl, e40]; rfl
theorem c40 (n : Nat) (ds : List D) (st : Sto) : Fx (n + 1) 40 ds st = runB 1 3 (m_rows_in (Fx n)) ds st := by rw [fx, fx]; show runB (B 40 _).1 (B 40 _).2.1 (B 40 _).2.2 ds st = _; rw [b40]
/-- slots: 0 lot 1 row 2 bound -/
def m_bounds_in (F : Fn) : MS := (mRet (mLc false [1, 2] (gTp 2 (gCons (gNm 1) (gCons (gNm 2) gNil))) mYes (mVar 2) (mIt (mOp2 opIx (mVar 0) (mCst (.int 1))))))
theorem e41 (F : Fn) : cSs C F 1000000 200 p41.ci p41.d.body = m_bounds_in F := by kernel_rfl
theorem b41 (F : Fn) : B 41 F = (1, 3, m_bounds_in F) := by rw [show B 41 F = (p41.ps.length, p41.N.length, cSs C F 1000000 200 p41.ci p41.d.body) by kernel_rfl, e41]; rfl
theorem c41 (n : Nat) (ds : List D) (st : Sto) : Fx (n + 1) 41 ds st = runB 1 3 (m_bounds_in (Fx n)) ds st := by rw [fx, fx]; show runB (B 41 _).1 (B 41 _).2.1 (B 41 _).2.2 ds st = _; rw [b41]
/-- slots: 0 lot -/
def m_void_weights (F : Fn) : MS := (mRet (mCall F 39 [.at 0, .at 1, .at 2] (mCons (mCall F 40 [.at 0] (mCons (mVar 0) mNil)) (mCons (mCall F 41 [.at 0] (mCons (mVar 0) mNil)) (mCons (mOp2 opIx (mVar 0) (mCst (.int 0))) mNil)))))
theorem e42 (F : Fn) : cSs C F 1000000 200 p42.ci p42.d.body = m_void_weights F := by kernel_rfl
theorem b42 (F : Fn) : B 42 F = (1, 1, m_void_weights F) := by rw [show B 42 F = (p42.ps.length, p42.N.length, cSs C F 1000000 200 p42.ci p42.d.body) by kernel_rfl, e42]; rfl
theorem c42 (n : Nat) (ds : List D) (st : Sto) : Fx (n + 1) 42 ds st = runB 1 1 (m_void_weights (Fx n)) ds st := by rw [fx, fx]; show runB (B 42 _).1 (B 42 _).2.1 (B 42 _).2.2 ds st = _; rw [b42]
/-- slots: 0 lot 1 weights 2 point -/
def m_point_of (F : Fn) : MS := (mSeq (mExp (mCall F 19 [.at 0] (mCons (mVar 0) mNil)))
    (mSeq (mAsg (gTp 2 (gCons (gNm 1) (gCons (gNm 2) gNil))) (mCall F 42 [.at 0] (mCons (mVar 0) mNil)))
    (mRet (mIf (mTest (mOp2 (opEq false) (mVar 1) (mOpN opTup mNil))) (mVar 2) (mCst .non)))))
theorem e43 (F : Fn) : cSs C F 1000000 200 p43.ci p43.d.body = m_point_of F := by kernel_rfl
theorem b43 (F : Fn) : B 43 F = (1, 3, m_point_of F) := by rw [show B 43 F = (p43.ps.length, p43.N.length, cSs C F 1000000 200 p43.ci p43.d.body) by kernel_rfl, e43]; rfl
theorem c43 (n : Nat) (ds : List D) (st : Sto) : Fx (n + 1) 43 ds st = runB 1 3 (m_point_of (Fx n)) ds st := by rw [fx, fx]; show runB (B 43 _).1 (B 43 _).2.1 (B 43 _).2.2 ds st = _; rw [b43]
/-- slots: 0 _law_one 1 _law_two -/
def m_law_common (F : Fn) : MS := (mSeq (mPar 0 1 (mCons (mOpN opAbs (mCons (mVar 0) mNil)) (mCons (mOpN opAbs (mCons (mVar 1) mNil)) mNil)))
    (mSeq (mWhl 1000000 (mTest (mOp2 (opCmp fun i j => decide (j < i)) (mVar 1) (mCst (.int 0))))
    (mPar 0 1 (mCons (mVar 1) (mCons (mOp2 opMod (mOpN opInt (mCons (mVar 0) mNil)) (mVar 1)) mNil))))
    (mRet (mVar 0))))
theorem e44 (F : Fn) : cSs C F 1000000 200 p44.ci p44.d.body = m_law_common F := by kernel_rfl
theorem b44 (F : Fn) : B 44 F = (2, 2, m_law_common F) := by rw [show B 44 F = (p44.ps.length, p44.N.length, cSs C F 1000000 200 p44.ci p44.d.body) by kernel_rfl, e44]; rfl
theorem c44 (n : Nat) (ds : List D) (st : Sto) : Fx (n + 1) 44 ds st = runB 2 2 (m_law_common (Fx n)) ds st := by rw [fx, fx]; show runB (B 44 _).1 (B 44 _).2.1 (B 44 _).2.2 ds st = _; rw [b44]
/-- slots: 0 _law_wish 1 _law_by 2 _law_each -/
def m_law_lowered (F : Fn) : MS := (mSeq (mAsg (gNm 1) (mCst (.int 0)))
    (mSeq (mFor (gNm 2) (mIt (mSl false (mVar 0) none (some (mOp1 opNeg (mCst (.int 1))))))
    (mAsg (gNm 1) (mIf (mOrT (mTest (mOp2 (opEq true) (mVar 1) (mCst (.int 0)))) (mTest (mOp2 (opEq true) (mVar 2) (mCst (.int 0))))) (mCall F 44 [.at 0, .at 1] (mCons (mVar 1) (mCons (mVar 2) mNil))) (mCst (.int 0)))))
    (mRet (mIf (mTest (mOp2 (opCmp fun i j => decide (i < j)) (mVar 1) (mCst (.int 2)))) (mVar 0) (mOp2 (opAdd false) (mOpN (un1 opTupOf) (mCons (mLc false [2] (gNm 2) mYes (mOp2 opDiv (mVar 2) (mVar 1)) (mIt (mSl false (mVar 0) none (some (mOp1 opNeg (mCst (.int 1))))))) mNil)) (mSl false (mVar 0) (some (mOp1 opNeg (mCst (.int 1)))) none))))))
theorem e45 (F : Fn) : cSs C F 1000000 200 p45.ci p45.d.body = m_law_lowered F := by kernel_rfl
theorem b45 (F : Fn) : B 45 F = (1, 3, m_law_lowered F) := by rw [show B 45 F = (p45.ps.length, p45.N.length, cSs C F 1000000 200 p45.ci p45.d.body) by kernel_rfl, e45]; rfl
theorem c45 (n : Nat) (ds : List D) (st : Sto) : Fx (n + 1) 45 ds st = runB 1 3 (m_law_lowered (Fx n)) ds st := by rw [fx, fx]; show runB (B 45 _).1 (B 45 _).2.1 (B 45 _).2.2 ds st = _; rw [b45]
/-- slots: 0 _law_one 1 _law_two 2 _law_spot 3 _law_both 4 _law_up 5 _law_down 6 _law_here 7 _law_there -/
def m_law_joined_wish (F : Fn) : MS := (mSeq (mAsg (gTp 2 (gCons (gNm 4) (gCons (gNm 5) gNil))) (mOpN opTup (mCons (mOp2 opIx (mVar 0) (mVar 2)) (mCons (mOp2 opSub (mCst (.int 0)) (mOp2 opIx (mVar 1) (mVar 2))) mNil))))
    (mSeq (mAsg (gNm 3) (mLc false [6, 7] (gTp 2 (gCons (gNm 6) (gCons (gNm 7) gNil))) mYes (mOp2 (opAdd false) (mOp2 (opMul false) (mVar 5) (mVar 6)) (mOp2 (opMul false) (mVar 4) (mVar 7))) (mZp (mCons (mSl false (mVar 0) none (some (mOp1 opNeg (mCst (.int 1))))) (mCons (mSl false (mVar 1) none (some (mOp1 opNeg (mCst (.int 1))))) mNil)))))
    (mRet (mCall F 45 [.at 0] (mCons (mOp2 (opAdd false) (mOpN (un1 opTupOf) (mCons (mVar 3) mNil)) (mOpN opTup (mCons (mOpN opMax (mCons (mOp2 opIx (mVar 0) (mOp1 opNeg (mCst (.int 1)))) (mCons (mOp2 opIx (mVar 1) (mOp1 opNeg (mCst (.int 1)))) mNil))) mNil))) mNil)))))
theorem e46 (F : Fn) : cSs C F 1000000 200 p46.ci p46.d.body = m_law_joined_wish F := by kernel_rfl
theorem b46 (F : Fn) : B 46 F = (3, 8, m_law_joined_wish F) := by rw [show B 46 F = (p46.ps.length, p46.N.length, cSs C F 1000000 200 p46.ci p46.d.body) by kernel_rfl, e46]; rfl
theorem c46 (n : Nat) (ds : List D) (st : Sto) : Fx (n + 1) 46 ds st = runB 3 8 (m_law_joined_wish (Fx n)) ds st := by rw [fx, fx]; show runB (B 46 _).1 (B 46 _).2.1 (B 46 _).2.2 ds st = _; rw [b46]
/-- slots: 0 _law_wishes 1 _law_size 2 _law_left 3 _law_spot 4 _law_found 5 _law_downs 6 _law_one 7 _law_wish 8 _law_two -/
def m_law_is_void (F : Fn) : MS := (mSeq (mAsg (gNm 2) (mOp1 (opSrt false) (mLc false [7] (gNm 7) mYes (mCall F 45 [.at 0] (mCons (mVar 7) mNil)) (mIt (mVar 0)))))
    (mSeq (mFor (gNm 3) (mRg (mCons (mVar 1) mNil))
    (mSeq (mAsg (gNm 4) (mLc false [7] (gNm 7) (mTest (mOp2 (opEq false) (mOp2 opIx (mVar 7) (mVar 3)) (mCst (.int 0)))) (mVar 7) (mIt (mVar 2))))
    (mSeq (mAsg (gNm 5) (mLc false [7] (gNm 7) (mTest (mOp2 (opCmp fun i j => decide (i < j)) (mOp2 opIx (mVar 7) (mVar 3)) (mCst (.int 0)))) (mVar 7) (mIt (mVar 2))))
    (mSeq (mFor (gNm 6) (mIt (mLc false [7] (gNm 7) (mTest (mOp2 (opCmp fun i j => decide (j < i)) (mOp2 opIx (mVar 7) (mVar 3)) (mCst (.int 0)))) (mVar 7) (mIt (mVar 2))))
    (mAsg (gNm 4) (mOp2 (opAdd false) (mVar 4) (mLc false [8] (gNm 8) mYes (mCall F 46 [.at 0, .at 1, .at 2] (mCons (mVar 6) (mCons (mVar 8) (mCons (mVar 3) mNil)))) (mIt (mVar 5))))))
    (mAsg (gNm 2) (mOp1 (opSrt false) (mVar 4)))))))
    (mRet (mOpN (opBls fun bs => .bl (bs.any id)) (mCons (mLc false [7] (gNm 7) mYes (mOp2 (opCmp fun i j => decide (i < j)) (mOp2 opIx (mVar 7) (mVar 1)) (mOp2 opIx (mVar 7) (mOp2 (opAdd false) (mVar 1) (mCst (.int 1))))) (mIt (mVar 2))) mNil)))))
theorem e47 (F : Fn) : cSs C F 1000000 200 p47.ci p47.d.body = m_law_is_void F := by kernel_rfl
theorem b47 (F : Fn) : B 47 F = (2, 9, m_law_is_void F) := by rw [show B 47 F = (p47.ps.length, p47.N.length, cSs C F 1000000 200 p47.ci p47.d.body) by kernel_rfl, e47]; rfl
theorem c47 (n : Nat) (ds : List D) (st : Sto) : Fx (n + 1) 47 ds st = runB 2 9 (m_law_is_void (Fx n)) ds st := by rw [fx, fx]; show runB (B 47 _).1 (B 47 _).2.1 (B 47 _).2.2 ds st = _; rw [b47]
/-- slots: 0 many 1 value 2 index 3 each -/
def m_check_row (F : Fn) : MS := (mSeq (mIfS (mOrT (mNotT (mTest (mOp1 (opIsi .tuple) (mVar 1)))) (mTest (mOp2 (opEq true) (mOpN (un1 opLen) (mCons (mVar 1) mNil)) (mVar 0))))
    mBad
    mPass)
    (mFor (gTp 2 (gCons (gNm 2) (gCons (gNm 3) gNil))) (mEn (mCons (mVar 1) mNil))
    (mIfS (mNotT (mTest (mCall F 15 [.at 0] (mCons (mVar 3) mNil))))
    mBad
    mPass)))
theorem e48 (F : Fn) : cSs C F 1000000 200 p48.ci p48.d.body = m_check_row F := by kernel_rfl
theorem b48 (F : Fn) : B 48 F = (2, 4, m_check_row F) := by rw [show B 48 F = (p48.ps.length, p48.N.length, cSs C F 1000000 200 p48.ci p48.d.body) by kernel_rfl, e48]; rfl
theorem c48 (n : Nat) (ds : List D) (st : Sto) : Fx (n + 1) 48 ds st = runB 2 4 (m_check_row (Fx n)) ds st := by rw [fx, fx]; show runB (B 48 _).1 (B 48 _).2.1 (B 48 _).2.2 ds st = _; rw [b48]
/-- slots: 0 one 1 two -/
def m_is_up_to (F : Fn) : MS := (mRet (mOp2 (opCmp fun i j => decide (i ≤ j)) (mOp2 (opMul false) (mOp2 opIx (mVar 0) (mCst (.int 0))) (mOp2 opIx (mVar 1) (mCst (.int 1)))) (mOp2 (opMul false) (mOp2 opIx (mVar 1) (mCst (.int 0))) (mOp2 opIx (mVar 0) (mCst (.int 1))))))
theorem e49 (F : Fn) : cSs C F 1000000 200 p49.ci p49.d.body = m_is_up_to F := by kernel_rfl
theorem b49 (F : Fn) : B 49 F = (2, 2, m_is_up_to F) := by rw [show B 49 F = (p49.ps.length, p49.N.length, cSs C F 1000000 200 p49.ci p49.d.body) by kernel_rfl, e49]; rfl
theorem c49 (n : Nat) (ds : List D) (st : Sto) : Fx (n + 1) 49 ds st = runB 2 2 (m_is_up_to (Fx n)) ds st := by rw [fx, fx]; show runB (B 49 _).1 (B 49 _).2.1 (B 49 _).2.2 ds st = _; rw [b49]
/-- slots: 0 one 1 two -/
def m_plus (F : Fn) : MS := (mRet (mCall F 20 [.at 0, .at 1] (mCons (mOp2 (opAdd false) (mOp2 (opMul false) (mOp2 opIx (mVar 0) (mCst (.int 0))) (mOp2 opIx (mVar 1) (mCst (.int 1)))) (mOp2 (opMul false) (mOp2 opIx (mVar 1) (mCst (.int 0))) (mOp2 opIx (mVar 0) (mCst (.int 1))))) (mCons (mOp2 (opMul false) (mOp2 opIx (mVar 0) (mCst (.int 1))) (mOp2 opIx (mVar 1) (mCst (.int 1)))) mNil))))
theorem e50 (F : Fn) : cSs C F 1000000 200 p50.ci p50.d.body = m_plus F := by kernel_rfl
theorem b50 (F : Fn) : B 50 F = (2, 2, m_plus F) := by rw [show B 50 F = (p50.ps.length, p50.N.length, cSs C F 1000000 200 p50.ci p50.d.body) by kernel_rfl, e50]; rfl
theorem c50 (n : Nat) (ds : List D) (st : Sto) : Fx (n + 1) 50 ds st = runB 2 2 (m_plus (Fx n)) ds st := by rw [fx, fx]; show runB (B 50 _).1 (B 50 _).2.1 (B 50 _).2.2 ds st = _; rw [b50]
/-- slots: 0 one 1 two 2 found 3 here 4 there -/
def m_dot (F : Fn) : MS := (mSeq (mAsg (gNm 2) (mCst (.tup [(.int (0)), (.int (1))])))
    (mSeq (mFor (gTp 2 (gCons (gNm 3) (gCons (gNm 4) gNil))) (mZp (mCons (mVar 0) (mCons (mVar 1) mNil)))
    (mIfS (mAndT (mTest (mOp2 (opEq true) (mOp2 opIx (mVar 3) (mCst (.int 0))) (mCst (.int 0)))) (mTest (mOp2 (opEq true) (mOp2 opIx (mVar 4) (mCst (.int 0))) (mCst (.int 0)))))
    (mAsg (gNm 2) (mCall F 50 [.at 0, .at 1] (mCons (mVar 2) (mCons (mCall F 21 [.at 0, .at 1] (mCons (mVar 3) (mCons (mVar 4) mNil))) mNil))))
    mPass))
    (mRet (mVar 2))))
theorem e51 (F : Fn) : cSs C F 1000000 200 p51.ci p51.d.body = m_dot F := by kernel_rfl
theorem b51 (F : Fn) : B 51 F = (2, 5, m_dot F) := by rw [show B 51 F = (p51.ps.length, p51.N.length, cSs C F 1000000 200 p51.ci p51.d.body) by kernel_rfl, e51]; rfl
theorem c51 (n : Nat) (ds : List D) (st : Sto) : Fx (n + 1) 51 ds st = runB 2 5 (m_dot (Fx n)) ds st := by rw [fx, fx]; show runB (B 51 _).1 (B 51 _).2.1 (B 51 _).2.2 ds st = _; rw [b51]
/-- slots: 0 lot 1 point 2 row 3 bound -/
def m_lies_by (F : Fn) : MS := (mRet (mOpN (opBls fun bs => .bl (bs.all id)) (mCons (mLc false [2, 3] (gTp 2 (gCons (gNm 2) (gCons (gNm 3) gNil))) mYes (mCall F 49 [.at 0, .at 1] (mCons (mCall F 51 [.at 0, .at 1] (mCons (mVar 2) (mCons (mVar 1) mNil))) (mCons (mVar 3) mNil))) (mIt (mOp2 opIx (mVar 0) (mCst (.int 1))))) mNil)))
theorem e52 (F : Fn) : cSs C F 1000000 200 p52.ci p52.d.body = m_lies_by F := by kernel_rfl
theorem b52 (F : Fn) : B 52 F = (2, 4, m_lies_by F) := by rw [show B 52 F = (p52.ps.length, p52.N.length, cSs C F 1000000 200 p52.ci p52.d.body) by kernel_rfl, e52]; rfl
theorem c52 (n : Nat) (ds : List D) (st : Sto) : Fx (n + 1) 52 ds st = runB 2 4 (m_lies_by (Fx n)) ds st := by rw [fx, fx]; show runB (B 52 _).1 (B 52 _).2.1 (B 52 _).2.2 ds st = _; rw [b52]
/-- slots: 0 lot 1 point -/
def m_lies_in (F : Fn) : MS := (mSeq (mExp (mCall F 19 [.at 0] (mCons (mVar 0) mNil)))
    (mSeq (mExp (mCall F 48 [.at 0, .at 1] (mCons (mOp2 opIx (mVar 0) (mCst (.int 0))) (mCons (mVar 1) mNil))))
    (mRet (mCall F 52 [.at 0, .at 1] (mCons (mVar 0) (mCons (mVar 1) mNil))))))
theorem e53 (F : Fn) : cSs C F 1000000 200 p53.ci p53.d.body = m_lies_in F := by kernel_rfl
theorem b53 (F : Fn) : B 53 F = (2, 2, m_lies_in F) := by rw [show B 53 F = (p53.ps.length, p53.N.length, cSs C F 1000000 200 p53.ci p53.d.body) by kernel_rfl, e53]; rfl
theorem c53 (n : Nat) (ds : List D) (st : Sto) : Fx (n + 1) 53 ds st = runB 2 2 (m_lies_in (Fx n)) ds st := by rw [fx, fx]; show runB (B 53 _).1 (B 53 _).2.1 (B 53 _).2.2 ds st = _; rw [b53]
/-- slots: 0 _law_row_here 1 _law_bound 2 _law_strict 3 _law_times_here 4 _law_each -/
def m_law_whole_wish (F : Fn) : MS := (mSeq (mAsg (gNm 3) (mCst (.int 1)))
    (mSeq (mFor (gNm 4) (mIt (mOp2 (opAdd false) (mVar 0) (mOpN opTup (mCons (mVar 1) mNil))))
    (mAsg (gNm 3) (mOp2 (opMul false) (mOp2 opDiv (mVar 3) (mCall F 44 [.at 0, .at 1] (mCons (mVar 3) (mCons (mOp2 opIx (mVar 4) (mCst (.int 1))) mNil)))) (mOp2 opIx (mVar 4) (mCst (.int 1))))))
    (mRet (mOp2 (opAdd false) (mOpN (un1 opTupOf) (mCons (mLc false [4] (gNm 4) mYes (mOp2 (opMul false) (mOp2 opIx (mVar 4) (mCst (.int 0))) (mOp2 opDiv (mVar 3) (mOp2 opIx (mVar 4) (mCst (.int 1))))) (mIt (mOp2 (opAdd false) (mVar 0) (mOpN opTup (mCons (mVar 1) mNil))))) mNil)) (mOpN opTup (mCons (mVar 2) mNil))))))
theorem e54 (F : Fn) : cSs C F 1000000 200 p54.ci p54.d.body = m_law_whole_wish F := by kernel_rfl
theorem b54 (F : Fn) : B 54 F = (3, 5, m_law_whole_wish F) := by rw [show B 54 F = (p54.ps.length, p54.N.length, cSs C F 1000000 200 p54.ci p54.d.body) by kernel_rfl, e54]; rfl
theorem c54 (n : Nat) (ds : List D) (st : Sto) : Fx (n + 1) 54 ds st = runB 3 5 (m_law_whole_wish (Fx n)) ds st := by rw [fx, fx]; show runB (B 54 _).1 (B 54 _).2.1 (B 54 _).2.2 ds st = _; rw [b54]
/-- slots: 0 _law_lot_here 1 _law_row_here 2 _law_bound -/
def m_law_lot_wishes (F : Fn) : MS := (mRet (mLc false [1, 2] (gTp 2 (gCons (gNm 1) (gCons (gNm 2) gNil))) mYes (mCall F 54 [.at 0, .at 1, .at 2] (mCons (mVar 1) (mCons (mVar 2) (mCons (mCst (.int 0)) mNil)))) (mIt (mOp2 opIx (mVar 0) (mCst (.int 1))))))
theorem e55 (F : Fn) : cSs C F 1000000 200 p55.ci p55.d.body = m_law_lot_wishes F := by kernel_rfl
theorem b55 (F : Fn) : B 55 F = (1, 3, m_law_lot_wishes F) := by rw [show B 55 F = (p55.ps.length, p55.N.length, cSs C F 1000000 200 p55.ci p55.d.body) by kernel_rfl, e55]; rfl
theorem c55 (n : Nat) (ds : List D) (st : Sto) : Fx (n + 1) 55 ds st = runB 1 3 (m_law_lot_wishes (Fx n)) ds st := by rw [fx, fx]; show runB (B 55 _).1 (B 55 _).2.1 (B 55 _).2.2 ds st = _; rw [b55]
/-- slots: 0 _law_lot_here 1 _law_point 2 _law_row_here 3 _law_bound -/
def m_law_lies (F : Fn) : MS := (mRet (mOpN (opBls fun bs => .bl (bs.all id)) (mCons (mLc false [2, 3] (gTp 2 (gCons (gNm 2) (gCons (gNm 3) gNil))) mYes (mCall F 9 [.at 0, .at 1] (mCons (mCall F 8 [.at 0, .at 1] (mCons (mVar 2) (mCons (mVar 1) mNil))) (mCons (mVar 3) mNil))) (mIt (mOp2 opIx (mVar 0) (mCst (.int 1))))) mNil)))
theorem e56 (F : Fn) : cSs C F 1000000 200 p56.ci p56.d.body = m_law_lies F := by kernel_rfl
theorem b56 (F : Fn) : B 56 F = (2, 4, m_law_lies F) := by rw [show B 56 F = (p56.ps.length, p56.N.length, cSs C F 1000000 200 p56.ci p56.d.body) by kernel_rfl, e56]; rfl
theorem c56 (n : Nat) (ds : List D) (st : Sto) : Fx (n + 1) 56 ds st = runB 2 4 (m_law_lies (Fx n)) ds st := by rw [fx, fx]; show runB (B 56 _).1 (B 56 _).2.1 (B 56 _).2.2 ds st = _; rw [b56]
/-- slots: 0 _law_thing -/
def m_law_is_whole (F : Fn) : MS := (mRet (mAndV (mOp1 (opIsi .int) (mVar 0)) (mNotV (mOp1 (opIsi .bool) (mVar 0)))))
theorem e57 (F : Fn) : cSs C F 1000000 200 p57.ci p57.d.body = m_law_is_whole F := by kernel_rfl
theorem b57 (F : Fn) : B 57 F = (1, 1, m_law_is_whole F) := by rw [show B 57 F = (p57.ps.length, p57.N.length, cSs C F 1000000 200 p57.ci p57.d.body) by kernel_rfl, e57]; rfl
theorem c57 (n : Nat) (ds : List D) (st : Sto) : Fx (n + 1) 57 ds st = runB 1 1 (m_law_is_whole (Fx n)) ds st := by rw [fx, fx]; show runB (B 57 _).1 (B 57 _).2.1 (B 57 _).2.2 ds st = _; rw [b57]
/-- slots: 0 _law_thing -/
def m_law_is_frac (F : Fn) : MS := (mSeq (mIfS (mOrT (mNotT (mTest (mOp1 (opIsi .tuple) (mVar 0)))) (mOrT (mTest (mOp2 (opEq true) (mOpN (un1 opLen) (mCons (mVar 0) mNil)) (mCst (.int 2)))) (mOrT (mNotT (mTest (mCall F 57 [.at 0] (mCons (mOp2 opIx (mVar 0) (mCst (.int 0))) mNil)))) (mNotT (mTest (mCall F 57 [.at 0] (mCons (mOp2 opIx (mVar 0) (mCst (.int 1))) mNil)))))))
    (mRet (mCst (.bl false)))
    mPass)
    (mRet (mAndV (mOp2 (opCmp fun i j => decide (j < i)) (mOp2 opIx (mVar 0) (mCst (.int 1))) (mCst (.int 0))) (mOp2 (opEq false) (mCall F 0 [.at 0, .at 1] (mCons (mOp2 opIx (mVar 0) (mCst (.int 0))) (mCons (mOp2 opIx (mVar 0) (mCst (.int 1))) mNil))) (mVar 0)))))
theorem e58 (F : Fn) : cSs C F 1000000 200 p58.ci p58.d.body = m_law_is_frac F := by kernel_rfl
theorem b58 (F : Fn) : B 58 F = (1, 1, m_law_is_frac F) := by rw [show B 58 F = (p58.ps.length, p58.N.length, cSs C F 1000000 200 p58.ci p58.d.body) by kernel_rfl, e58]; rfl
theorem c58 (n : Nat) (ds : List D) (st : Sto) : Fx (n + 1) 58 ds st = runB 1 1 (m_law_is_frac (Fx n)) ds st := by rw [fx, fx]; show runB (B 58 _).1 (B 58 _).2.1 (B 58 _).2.2 ds st = _; rw [b58]
/-- slots: 0 _law_thing 1 _law_size 2 _law_each -/
def m_law_is_row (F : Fn) : MS := (mRet (mAndV (mOp1 (opIsi .tuple) (mVar 0)) (mAndV (mOp2 (opEq false) (mOpN (un1 opLen) (mCons (mVar 0) mNil)) (mVar 1)) (mOpN (opBls fun bs => .bl (bs.all id)) (mCons (mLc false [2] (gNm 2) mYes (mCall F 58 [.at 0] (mCons (mVar 2) mNil)) (mIt (mVar 0))) mNil)))))
theorem e59 (F : Fn) : cSs C F 1000000 200 p59.ci p59.d.body = m_law_is_row F := by kernel_rfl
theorem b59 (F : Fn) : B 59 F = (2, 3, m_law_is_row F) := by rw [show B 59 F = (p59.ps.length, p59.N.length, cSs C F 1000000 200 p59.ci p59.d.body) by kernel_rfl, e59]; rfl
theorem c59 (n : Nat) (ds : List D) (st : Sto) : Fx (n + 1) 59 ds st = runB 2 3 (m_law_is_row (Fx n)) ds st := by rw [fx, fx]; show runB (B 59 _).1 (B 59 _).2.1 (B 59 _).2.2 ds st = _; rw [b59]
/-- slots: 0 _law_well_here 1 _law_size 2 _law_some 3 _law_point 4 _law_lot_here 5 _law_told 6 _law_row_here 7 _law_due -/
def m_law_right (F : Fn) : MS := (mSeq (mAsg (gNm 1) (mOp2 (opAdd false) (mCst (.int 1)) (mCall F 1 [.at 0, .at 1] (mCons (mVar 0) (mCons (mCst (.int 3)) mNil)))))
    (mSeq (mAsg (gTp 2 (gCons (gNm 3) (gCons (gNm 4) gNil))) (mCall F 10 [.at 0, .at 1, .at 2] (mCons (mVar 0) (mCons (mVar 1) (mCons (mCst (.int 6)) mNil)))))
    (mSeq (mFor (gNm 2) (mIt (mOpN opTup (mCons (mVar 4) (mCons (mCall F 5 [.at 0, .at 1, .at 2] (mCons (mVar 0) (mCons (mVar 1) (mCons (mCst (.int 6)) mNil)))) mNil))))
    (mSeq (mAsg (gNm 5) (mCall F 43 [.at 0] (mCons (mVar 2) mNil)))
    (mSeq (mIfS (mTest (mOp2 (opEq true) (mOpN opRepr (mCons (mCallK F 43 [.at 0] mNil (mCons (mVar 2) mNil)) mNil)) (mOpN opRepr (mCons (mVar 5) mNil))))
    (mRet (mCst (.bl false)))
    mPass)
    (mSeq (mIfS (mTest (mCall F 47 [.at 0, .at 1] (mCons (mCall F 55 [.at 0] (mCons (mVar 2) mNil)) (mCons (mVar 1) mNil))))
    (mIfS (mTest (mOp1 (opIsN true) (mVar 5)))
    (mRet (mCst (.bl false)))
    mPass)
    (mIfS (mOrT (mNotT (mTest (mCall F 59 [.at 0, .at 1] (mCons (mVar 5) (mCons (mVar 1) mNil))))) (mNotT (mTest (mCall F 56 [.at 0, .at 1] (mCons (mVar 2) (mCons (mVar 5) mNil))))))
    (mRet (mCst (.bl false)))
    mPass))
    (mFor (gNm 6) (mIt (mOpN opTup (mCons (mVar 3) (mCons (mCall F 3 [.at 0, .at 1] (mCons (mVar 0) (mCons (mVar 1) mNil))) (mCons (mCall F 3 [.at 0, .at 1] (mCons (mVar 0) (mCons (mVar 1) mNil))) mNil)))))
    (mSeq (mAsg (gNm 7) (mOpN opRepr (mCons (mCall F 56 [.at 0, .at 1] (mCons (mVar 2) (mCons (mVar 6) mNil))) mNil)))
    (mIfS (mOrT (mTest (mOp2 (opEq true) (mOpN opRepr (mCons (mCall F 53 [.at 0, .at 1] (mCons (mVar 2) (mCons (mVar 6) mNil))) mNil)) (mVar 7))) (mTest (mOp2 (opEq true) (mOpN opRepr (mCons (mCallK F 53 [.at 1, .at 0] mNil (mCons (mVar 6) (mCons (mVar 2) mNil))) mNil)) (mVar 7))))
    (mRet (mCst (.bl false)))
    mPass)))))))
    (mRet (mOp2 (opIsB false) (mCall F 53 [.at 0, .at 1] (mCons (mVar 4) (mCons (mVar 3) mNil))) (mCst (.bl true)))))))
theorem e60 (F : Fn) : cSs C F 1000000 200 p60.ci p60.d.body = m_law_right F := by kernel_rfl
theorem b60 (F : Fn) : B 60 F = (1, 8, m_law_right F) := by rw [show B 60 F = (p60.ps.length, p60.N.length, cSs C F 1000000 200 p60.ci p60.d.body) by kernel_rfl, e60]; rfl
theorem c60 (n : Nat) (ds : List D) (st : Sto) : Fx (n + 1) 60 ds st = runB 1 8 (m_law_right (Fx n)) ds st := by rw [fx, fx]; show runB (B 60 _).1 (B 60 _).2.1 (B 60 _).2.2 ds st = _; rw [b60]
/-- slots: 0 _law_script 1 _law_turn 2 _law_own 3 _law_seed 4 _law_cell -/
def m_law_well (F : Fn) : MS := (mSeq (mAsg (gNm 2) (mIf (mTest (mOp2 (opCmp fun i j => decide (i < j)) (mVar 1) (mOpN (un1 opLen) (mCons (mVar 0) mNil)))) (mOpN opInt (mCons (mOp2 opIx (mVar 0) (mVar 1)) mNil)) (mCst (.int 0))))
    (mSeq (mAsg (gNm 3) (mOp2 (opAdd false) (mCst (.int 703711)) (mOp2 (opMul false) (mCst (.int 131)) (mVar 1))))
    (mSeq (mFor (gNm 4) (mIt (mSl false (mVar 0) none (some (mCst (.int 10)))))
    (mAsg (gNm 3) (mOp2 opMod (mOpN opInt (mCons (mOp2 (opAdd false) (mOp2 (opAdd false) (mOp2 (opMul false) (mVar 3) (mCst (.int 57349))) (mOp2 opMod (mOpN opInt (mCons (mVar 4) mNil)) (mCst (.int 2147483399)))) (mCst (.int 19))) mNil)) (mCst (.int 2147483587)))))
    (mSeq (mAsg (gNm 3) (mOp2 opMod (mOpN opInt (mCons (mOp2 (opAdd false) (mOp2 (opAdd false) (mOp2 (opMul false) (mVar 3) (mCst (.int 37))) (mOp2 (opMul false) (mOp2 opMod (mOpN opInt (mCons (mVar 2) mNil)) (mCst (.int 2147483399))) (mCst (.int 20011)))) (mCst (.int 11))) mNil)) (mCst (.int 2147483587))))
    (mRet (mOpN (opLst true) (mCons (mIf (mOrT (mTest (mOp2 (opCmp fun i j => decide (i < j)) (mVar 2) (mCst (.int 0)))) (mTest (mOp2 (opCmp fun i j => decide (j ≤ i)) (mVar 2) (mOp2 opPow (mCst (.int 10)) (mCst (.int 16)))))) (mOpN opAbs (mCons (mVar 2) mNil)) (mCst (.int 0))) (mCons (mVar 3) (mCons (mCst (.int 0)) mNil)))))))))
theorem e61 (F : Fn) : cSs C F 1000000 200 p61.ci p61.d.body = m_law_well F := by kernel_rfl
theorem b61 (F : Fn) : B 61 F = (2, 5, m_law_well F) := by rw [show B 61 F = (p61.ps.length, p61.N.length, cSs C F 1000000 200 p61.ci p61.d.body) by kernel_rfl, e61]; rfl
theorem c61 (n : Nat) (ds : List D) (st : Sto) : Fx (n + 1) 61 ds st = runB 2 5 (m_law_well (Fx n)) ds st := by rw [fx, fx]; show runB (B 61 _).1 (B 61 _).2.1 (B 61 _).2.2 ds st = _; rw [b61]
/-- slots: 0 _law_script 1 _law_turn -/
def m_law (F : Fn) : MS := (mRet (mOpN (opBls fun bs => .bl (bs.all id)) (mCons (mLc false [1] (gNm 1) mYes (mCall F 60 [.at 0] (mCons (mCall F 61 [.at 0, .at 1] (mCons (mVar 0) (mCons (mVar 1) mNil))) mNil)) (mRg (mCons (mOpN opMax (mCons (mCst (.int 1)) (mCons (mOpN opMin (mCons (mOpN (un1 opLen) (mCons (mVar 0) mNil)) (mCons (mCst (.int 3)) mNil))) mNil))) mNil))) mNil)))
theorem e62 (F : Fn) : cSs C F 1000000 200 p62.ci p62.d.body = m_law F := by kernel_rfl
theorem b62 (F : Fn) : B 62 F = (1, 2, m_law F) := by rw [show B 62 F = (p62.ps.length, p62.N.length, cSs C F 1000000 200 p62.ci p62.d.body) by kernel_rfl, e62]; rfl
theorem c62 (n : Nat) (ds : List D) (st : Sto) : Fx (n + 1) 62 ds st = runB 1 2 (m_law (Fx n)) ds st := by rw [fx, fx]; show runB (B 62 _).1 (B 62 _).2.1 (B 62 _).2.2 ds st = _; rw [b62]
end K03
set_option maxHeartbeats 1000000
namespace Lp
/-! ## sums -/
def sm : Nat → (Nat → Rat) → Rat
  | 0, _ => 0
  | n + 1, f => sm n f + f n
theorem sm_congr {n : Nat} {f g : Nat → Rat} (h : ∀ i, i < n → f i = g i) : sm n f = sm n g := by
  induction n with
  | zero => rfl
  | succ n ih => simp only [sm]; rw [ih fun i hi => h i (by omega), h n (by omega)]
theorem sm_zero (n : Nat) : sm n (fun _ => 0) = 0 := by
  induction n with
  | zero => rfl
  | succ n ih => simp only [sm, ih]; grind
theorem sm_add (n : Nat) (f g : Nat → Rat) : sm n (fun i => f i + g i) = sm n f + sm n g := by
  induction n with
  | zero => simp [sm]; grind
  | succ n ih => simp only [sm, ih]; grind
theorem sm_sub (n : Nat) (f g : Nat → Rat) : sm n (fun i => f i - g i) = sm n f - sm n g := by
  induction n with
  | zero => simp [sm]; grind
  | succ n ih => simp only [sm, ih]; grind
theorem sm_mul (n : Nat) (c : Rat) (f : Nat → Rat) : sm n (fun i => c * f i) = c * sm n f := by
  induction n with
  | zero => simp [sm]
  | succ n ih => simp only [sm, ih]; grind
theorem sm_mulr (n : Nat) (c : Rat) (f : Nat → Rat) : sm n (fun i => f i * c) = sm n f * c := by
  induction n with
  | zero => simp [sm]
  | succ n ih => simp only [sm, ih]; grind
/-- one place alone -/
theorem sm_at (n k : Nat) (f : Nat → Rat) (hk : k < n) (h : ∀ i, i < n → i ≠ k → f i = 0) : sm n f = f k := by
  induction n with
  | zero => omega
  | succ n ih =>
    simp only [sm]
    by_cases e : k = n
    · subst e
      rw [sm_congr (g := fun _ => 0) fun i hi => h i (by omega) (by omega), sm_zero]
      grind
    · rw [ih (by omega) fun i hi hne => h i (by omega) hne, h n (by omega) (by omega)]
      grind
theorem sm_none (n : Nat) (f : Nat → Rat) (h : ∀ i, i < n → f i = 0) : sm n f = 0 := by
  rw [sm_congr (g := fun _ => 0) h, sm_zero]
theorem sm_comm (n m : Nat) (f : Nat → Nat → Rat) : sm n (fun i => sm m (fun j => f i j)) = sm m (fun j => sm n (fun i => f i j)) := by
  induction n with
  | zero => simp only [sm]; rw [sm_zero]
  | succ n ih => simp only [sm]; rw [sm_add, ih]
theorem sm_nonneg (n : Nat) (f : Nat → Rat) (h : ∀ i, i < n → 0 ≤ f i) : 0 ≤ sm n f := by
  induction n with
  | zero => simp [sm]
  | succ n ih =>
    simp only [sm]
    have h1 := ih fun i hi => h i (by omega)
    have h2 := h n (by omega)
    grind
theorem sm_le (n : Nat) (f g : Nat → Rat) (h : ∀ i, i < n → f i ≤ g i) : sm n f ≤ sm n g := by
  induction n with
  | zero => simp [sm]
  | succ n ih =>
    simp only [sm]
    have h1 := ih fun i hi => h i (by omega)
    have h2 := h n (by omega)
    grind
theorem sm_pos (n : Nat) (f : Nat → Rat) (h : 0 < sm n f) : ∃ i, i < n ∧ 0 < f i := by
  induction n with
  | zero => simp [sm] at h
  | succ n ih =>
    simp only [sm] at h
    by_cases q : 0 < f n
    · exact ⟨n, by omega, q⟩
    · obtain ⟨i, h1, h2⟩ := ih (by grind)
      exact ⟨i, by omega, h2⟩
theorem sm_ne (n : Nat) (f : Nat → Rat) (h : sm n f ≠ 0) : ∃ i, i < n ∧ f i ≠ 0 := by
  induction n with
  | zero => simp [sm] at h
  | succ n ih =>
    simp only [sm] at h
    by_cases q : f n = 0
    · obtain ⟨i, h1, h2⟩ := ih (by grind)
      exact ⟨i, by omega, h2⟩
    · exact ⟨n, by omega, q⟩
def dl (a b : Nat) : Rat := if a = b then 1 else 0
theorem sm_dl (n k : Nat) (f : Nat → Rat) (hk : k < n) : sm n (fun i => f i * dl i k) = f k := by
  rw [sm_at n k _ hk fun i hi hne => by simp [dl, hne]]
  simp [dl]
theorem sm_dl' (n k : Nat) (f : Nat → Rat) (hk : ¬ k < n) : sm n (fun i => f i * dl i k) = 0 := by
  rw [sm_none]
  intro i hi
  have : i ≠ k := by omega
  simp [dl, this]
/-! ## boards -/
abbrev Bd := Nat → Nat → Rat
/-- what the rows make nought -/
def Ker (m N : Nat) (T : Bd) (x : Nat → Rat) : Prop := ∀ i, i < m → sm (N + 1) (fun j => T i j * x j) = 0
/-- one makes nought what the other one does -/
def Eqv (m N : Nat) (S T : Bd) : Prop := ∀ x, Ker m N S x ↔ Ker m N T x
theorem Eqv.refl (m N : Nat) (T : Bd) : Eqv m N T T := fun _ => Iff.rfl
theorem Eqv.symm {m N : Nat} {S T : Bd} (h : Eqv m N S T) : Eqv m N T S := fun x => (h x).symm
theorem Eqv.trans {m N : Nat} {S T U : Bd} (h : Eqv m N S T) (h' : Eqv m N T U) : Eqv m N S U := fun x => (h x).trans (h' x)
/-- the basis: unit columns -/
def Bas (m N : Nat) (T : Bd) (β : Nat → Nat) : Prop := ∀ i, i < m → β i < N ∧ ∀ k, k < m → T k (β i) = dl k i
theorem Bas.inj {m N : Nat} {T : Bd} {β : Nat → Nat} (h : Bas m N T β) {i k : Nat} (hi : i < m) (hk : k < m) (e : β i = β k) : i = k := by
  by_cases q : i = k
  · exact q
  · have h1 := (h i hi).2 i hi
    have h2 := (h k hk).2 i hi
    rw [e, h2] at h1
    simp [dl, q] at h1
/-- a column, told by the basis -/
def col (m : Nat) (T : Bd) (β : Nat → Nat) (c : Nat) : Nat → Rat := fun j => dl j c - sm m (fun i => T i c * dl j (β i))
theorem sm_col {m N : Nat} {T : Bd} {β : Nat → Nat} (hβ : ∀ i, i < m → β i < N) {c : Nat} (hc : c < N + 1) (f : Nat → Rat) : sm (N + 1) (fun j => f j * col m T β c j) = f c - sm m (fun i => T i c * f (β i)) := by
  have e : (fun j => f j * col m T β c j) = fun j => f j * dl j c - sm m (fun i => T i c * (f j * dl j (β i))) := by
    funext j
    unfold col
    have : f j * sm m (fun i => T i c * dl j (β i)) = sm m (fun i => T i c * (f j * dl j (β i))) := by
      rw [← sm_mul]
      exact sm_congr fun i _ => by grind
    grind
  rw [e, sm_sub, sm_dl _ _ _ hc, sm_comm]
  congr 1
  refine sm_congr fun i hi => ?_
  rw [sm_mul, sm_dl _ _ _ (by have := hβ i hi; omega)]
theorem ker_col {m N : Nat} {T : Bd} {β : Nat → Nat} (h : Bas m N T β) {c : Nat} (hc : c < N + 1) : Ker m N T (col m T β c) := fun k hk => by
  rw [sm_col (fun i hi => (h i hi).1) hc (fun j => T k j)]
  have : sm m (fun i => T i c * T k (β i)) = T k c := by
    rw [sm_at m k _ hk fun i hi hne => by rw [(h i hi).2 k hk]; simp [dl, Ne.symm hne]]
    rw [(h k hk).2 k hk]
    simp [dl]
  rw [this]
  grind
/-- the board is told by its basis -/
theorem told {m N : Nat} {S T : Bd} {σ τ : Nat → Nat} (hs : Bas m N S σ) (ht : Bas m N T τ) (e : Eqv m N S T) {c k : Nat} (hc : c < N + 1) (hk : k < m) : T k c = sm m (fun i => S i c * T k (σ i)) := by
  have h1 := (e _).mp (ker_col hs hc) k hk
  rw [sm_col (fun i hi => (hs i hi).1) hc (fun j => T k j)] at h1
  grind
theorem uniq {m N : Nat} {S T : Bd} {β : Nat → Nat} (hs : Bas m N S β) (ht : Bas m N T β) (e : Eqv m N S T) {c k : Nat} (hc : c < N + 1) (hk : k < m) : T k c = S k c := by
  rw [told hs ht e hc hk, sm_at m k _ hk fun i hi hne => by rw [(ht i hi).2 k hk]; simp [dl, Ne.symm hne]]
  rw [(ht k hk).2 k hk]
  simp [dl]
/-! ## turning a board about -/
def piv (T : Bd) (r c : Nat) : Bd := fun i j => if i = r then T r j / T r c else T i j - T i c * (T r j / T r c)
def pvb (β : Nat → Nat) (r c : Nat) : Nat → Nat := fun i => if i = r then c else β i
theorem piv_r (T : Bd) (r c j : Nat) : piv T r c r j = T r j / T r c := by simp [piv]
theorem piv_o {T : Bd} {r c i : Nat} (h : i ≠ r) (j : Nat) : piv T r c i j = T i j - T i c * (T r j / T r c) := by simp [piv, h]
theorem piv_eqv {m N : Nat} {T : Bd} {r c : Nat} (hr : r < m) (hp : T r c ≠ 0) : Eqv m N T (piv T r c) := fun x => by
  have er : sm (N + 1) (fun j => piv T r c r j * x j) = sm (N + 1) (fun j => T r j * x j) / T r c := by
    have : (fun j => piv T r c r j * x j) = fun j => (1 / T r c) * (T r j * x j) := by funext j; rw [piv_r]; grind
    rw [this, sm_mul]
    grind
  have eo : ∀ i, i ≠ r → sm (N + 1) (fun j => piv T r c i j * x j) = sm (N + 1) (fun j => T i j * x j) - T i c * (sm (N + 1) (fun j => T r j * x j) / T r c) := fun i hi => by
    have : (fun j => piv T r c i j * x j) = fun j => T i j * x j - (T i c / T r c) * (T r j * x j) := by funext j; rw [piv_o hi]; grind
    rw [this, sm_sub, sm_mul]
    grind
  constructor
  · intro h i hi
    by_cases q : i = r
    · subst q
      rw [er, h i hi]
      grind
    · rw [eo i q, h i hi, h r hr]
      grind
  · intro h
    have h0 : sm (N + 1) (fun j => T r j * x j) = 0 := by
      have := h r hr
      rw [er] at this
      grind
    intro i hi
    by_cases q : i = r
    · subst q; exact h0
    · have := h i hi
      rw [eo i q, h0] at this
      grind
theorem piv_bas {m N : Nat} {T : Bd} {β : Nat → Nat} {r c : Nat} (h : Bas m N T β) (hr : r < m) (hc : c < N) (hp : T r c ≠ 0) : Bas m N (piv T r c) (pvb β r c) := fun i hi => by
  by_cases q : i = r
  · subst q
    refine ⟨by simpa [pvb] using hc, fun k hk => ?_⟩
    have e : pvb β i c i = c := by simp [pvb]
    rw [e]
    by_cases q2 : k = i
    · subst q2
      rw [piv_r]
      simp [dl]
      grind
    · rw [piv_o q2]
      simp [dl, q2]
      grind
  · have e : pvb β r c i = β i := by simp [pvb, q]
    rw [e]
    refine ⟨(h i hi).1, fun k hk => ?_⟩
    have h0 : T r (β i) = 0 := by rw [(h i hi).2 r hr]; simp [dl, Ne.symm q]
    by_cases q2 : k = r
    · subst q2
      rw [piv_r, h0]
      simp [dl, Ne.symm q]
      grind
    · rw [piv_o q2, h0, (h i hi).2 k hk]
      grind
end Lp
set_option maxHeartbeats 1000000
namespace Lp
/-! ## what a column costs above the basis -/
def gp (m : Nat) (cost : Nat → Rat) (T : Bd) (β : Nat → Nat) (j : Nat) : Rat := cost j - sm m (fun i => cost (β i) * T i j)
theorem gp_bas {m N : Nat} {cost : Nat → Rat} {T : Bd} {β : Nat → Nat} (h : Bas m N T β) {i : Nat} (hi : i < m) : gp m cost T β (β i) = 0 := by
  unfold gp
  rw [sm_at m i _ hi fun k hk hne => by rw [(h i hi).2 k hk]; simp [dl, hne]]
  rw [(h i hi).2 i hi]
  simp [dl]
  grind
theorem gp_ker {m N : Nat} {cost : Nat → Rat} {T : Bd} {β : Nat → Nat} {x : Nat → Rat} (h : Ker m N T x) (hx : x N = 0) : sm N (fun j => gp m cost T β j * x j) = sm N (fun j => cost j * x j) := by
  have e : (fun j => gp m cost T β j * x j) = fun j => cost j * x j - sm m (fun i => cost (β i) * (T i j * x j)) := by
    funext j
    unfold gp
    have : sm m (fun i => cost (β i) * T i j) * x j = sm m (fun i => cost (β i) * (T i j * x j)) := by
      rw [← sm_mulr]
      exact sm_congr fun i _ => by grind
    grind
  rw [e, sm_sub, sm_comm]
  have : sm m (fun i => sm N (fun j => cost (β i) * (T i j * x j))) = 0 := by
    refine sm_none _ _ fun i hi => ?_
    rw [sm_mul]
    have h2 := h i hi
    simp only [sm] at h2
    rw [hx] at h2
    grind
  rw [this]
  grind
theorem sm_upd {m r : Nat} (hr : r < m) {f g : Nat → Rat} (h : ∀ i, i < m → i ≠ r → f i = g i) : sm m f = sm m g + (f r - g r) := by
  have : sm m (fun i => f i - g i) = f r - g r := sm_at m r _ hr fun i hi hne => by rw [h i hi hne]; grind
  rw [sm_sub] at this
  grind
theorem gp_piv {m : Nat} {cost : Nat → Rat} {T : Bd} {β : Nat → Nat} {r c : Nat} (hr : r < m) (hp : T r c ≠ 0) (j : Nat) : gp m cost (piv T r c) (pvb β r c) j = gp m cost T β j - gp m cost T β c * (T r j / T r c) := by
  unfold gp
  have e1 : sm m (fun i => cost (pvb β r c i) * piv T r c i j) = sm m (fun i => cost (β i) * T i j - cost (β i) * T i c * (T r j / T r c)) + (cost c * (T r j / T r c) - (cost (β r) * T r j - cost (β r) * T r c * (T r j / T r c))) := by
    have := sm_upd (m := m) hr (f := fun i => cost (pvb β r c i) * piv T r c i j) (g := fun i => cost (β i) * T i j - cost (β i) * T i c * (T r j / T r c)) fun i hi hne => by
      have : pvb β r c i = β i := by simp [pvb, hne]
      rw [this, piv_o hne]
      grind
    rw [this]
    have e2 : pvb β r c r = c := by simp [pvb]
    rw [e2, piv_r]
  rw [e1, sm_sub, sm_mulr]
  grind
/-! ## a turn by the least column and the least basic one -/
structure Stp (m N many : Nat) (cost : Nat → Rat) (T : Bd) (β : Nat → Nat) (r c : Nat) : Prop where
  hc : c < many
  neg : gp m cost T β c < 0
  low : ∀ j, j < c → 0 ≤ gp m cost T β j
  hr : r < m
  pos : 0 < T r c
  least : ∀ i, i < m → 0 < T i c → T r N / T r c ≤ T i N / T i c ∧ (T r N / T r c = T i N / T i c → β r ≤ β i)
def Fea (m N : Nat) (T : Bd) : Prop := ∀ i, i < m → 0 ≤ T i N
theorem div_mul_self {a b : Rat} (h : 0 < b) : a / b * b = a := by grind
theorem div_nn {a b : Rat} (ha : 0 ≤ a) (hb : 0 < b) : 0 ≤ a / b := by
  rw [Rat.div_def]
  have : 0 < b⁻¹ := Rat.inv_pos.mpr hb
  exact Rat.mul_nonneg ha (by grind)
theorem fea_piv {m N many : Nat} {cost : Nat → Rat} {T : Bd} {β : Nat → Nat} {r c : Nat} (h : Fea m N T) (s : Stp m N many cost T β r c) : Fea m N (piv T r c) := fun i hi => by
  have ht := div_nn (h r s.hr) s.pos
  by_cases q : i = r
  · subst q
    rw [piv_r]
    exact ht
  · rw [piv_o q]
    by_cases p : 0 < T i c
    · have h1 := (s.least i hi p).1
      have h2 : T i N / T i c * T i c = T i N := div_mul_self p
      have h3 : T r N / T r c * T i c ≤ T i N / T i c * T i c := Rat.mul_le_mul_of_nonneg_right h1 (by grind)
      rw [h2] at h3
      grind
    · have h1 := h i hi
      have h2 : 0 ≤ (-T i c) * (T r N / T r c) := Rat.mul_nonneg (by grind) ht
      grind
theorem maxk (c : Nat → Nat) (a : Nat) : ∀ n, ∃ k, a ≤ k ∧ k < a + (n + 1) ∧ ∀ j, a ≤ j → j < a + (n + 1) → c j ≤ c k
  | 0 => by
    refine ⟨a, by omega, by omega, fun j h1 h2 => ?_⟩
    have : j = a := by omega
    rw [this]
    exact Nat.le_refl _
  | n + 1 => by
    obtain ⟨k, h1, h2, h3⟩ := maxk c a n
    by_cases q : c k ≤ c (a + (n + 1))
    · refine ⟨a + (n + 1), by omega, by omega, fun j g1 g2 => ?_⟩
      by_cases e : j = a + (n + 1)
      · rw [e]; exact Nat.le_refl _
      · exact Nat.le_trans (h3 j g1 (by omega)) q
    · refine ⟨k, h1, by omega, fun j g1 g2 => ?_⟩
      by_cases e : j = a + (n + 1)
      · rw [e]; omega
      · exact h3 j g1 (by omega)
section
variable {m N many a b : Nat} {cost : Nat → Rat} {T : Nat → Bd} {β : Nat → Nat → Nat} {r c : Nat → Nat}
theorem stay_eq (nb : ∀ k, a ≤ k → k < b → β (k + 1) = pvb (β k) (r k) (c k)) {i v : Nat} : ∀ (d x : Nat), a ≤ x → x + d ≤ b → (∀ k, x ≤ k → k < x + d → ¬ (r k = i ∧ β k i = v)) → β x i = v → β (x + d) i = v
  | 0, x, _, _, _, h => h
  | d + 1, x, h1, h2, h3, h => by
    have ih := stay_eq nb d x h1 (by omega) (fun k g1 g2 => h3 k g1 (by omega)) h
    have := h3 (x + d) (by omega) (by omega)
    have hr : i ≠ r (x + d) := fun e => this ⟨e.symm, ih⟩
    have e := nb (x + d) (by omega) (by omega)
    rw [show x + (d + 1) = x + d + 1 by omega, e]
    simp [pvb, hr, ih]
theorem stay_ne (nb : ∀ k, a ≤ k → k < b → β (k + 1) = pvb (β k) (r k) (c k)) {i v : Nat} : ∀ (d x : Nat), a ≤ x → x + d ≤ b → (∀ k, x ≤ k → k < x + d → ¬ (r k = i ∧ c k = v)) → β x i ≠ v → β (x + d) i ≠ v
  | 0, x, _, _, _, h => h
  | d + 1, x, h1, h2, h3, h => by
    have ih := stay_ne nb d x h1 (by omega) (fun k g1 g2 => h3 k g1 (by omega)) h
    have := h3 (x + d) (by omega) (by omega)
    have e := nb (x + d) (by omega) (by omega)
    rw [show x + (d + 1) = x + d + 1 by omega, e]
    by_cases hr : i = r (x + d)
    · subst hr
      simp only [pvb, if_true]
      exact fun z => this ⟨rfl, z⟩
    · simp only [pvb, if_neg hr]
      exact ih
/-- Bland: no basis comes again -/
theorem nocyc (hm : many ≤ N) (hc0 : cost N = 0) (hab : a < b) (bs : ∀ k, a ≤ k → k ≤ b → Bas m N (T k) (β k)) (fe : ∀ k, a ≤ k → k ≤ b → Fea m N (T k)) (eq : ∀ k, a ≤ k → k ≤ b → Eqv m N (T a) (T k))
    (st : ∀ k, a ≤ k → k < b → Stp m N many cost (T k) (β k) (r k) (c k)) (nt : ∀ k, a ≤ k → k < b → T (k + 1) = piv (T k) (r k) (c k)) (nb : ∀ k, a ≤ k → k < b → β (k + 1) = pvb (β k) (r k) (c k))
    (cy : ∀ i, i < m → β a i = β b i) : False := by
  -- the sum of costs
  have za : gp m cost (T a) (β a) N = gp m cost (T b) (β b) N := by
    unfold gp
    congr 1
    refine sm_congr fun i hi => ?_
    have hb2 : Bas m N (T b) (β a) := fun k hk => by rw [cy k hk]; exact bs b (by omega) (by omega) k hk
    rw [cy i hi, uniq (bs a (by omega) (by omega)) hb2 (eq b (by omega) (by omega)) (by omega) hi]
  have zs : ∀ k, a ≤ k → k < b → gp m cost (T (k + 1)) (β (k + 1)) N = gp m cost (T k) (β k) N - gp m cost (T k) (β k) (c k) * (T k (r k) N / T k (r k) (c k)) := fun k h1 h2 => by
    have s := st k h1 h2
    rw [nt k h1 h2, nb k h1 h2, gp_piv s.hr (by have := s.pos; grind)]
  have th : ∀ k, a ≤ k → k < b → 0 ≤ T k (r k) N / T k (r k) (c k) := fun k h1 h2 => div_nn (fe k h1 (by omega) _ (st k h1 h2).hr) (st k h1 h2).pos
  have z1 : ∀ k, a ≤ k → k < b → gp m cost (T k) (β k) N ≤ gp m cost (T (k + 1)) (β (k + 1)) N := fun k h1 h2 => by
    rw [zs k h1 h2]
    have := Rat.mul_nonneg (show 0 ≤ -gp m cost (T k) (β k) (c k) by have := (st k h1 h2).neg; grind) (th k h1 h2)
    grind
  have zm : ∀ (d x : Nat), a ≤ x → x + d ≤ b → gp m cost (T x) (β x) N ≤ gp m cost (T (x + d)) (β (x + d)) N := by
    intro d
    induction d with
    | zero => intro x _ _; exact Rat.le_refl
    | succ d ih =>
      intro x h1 h2
      have q1 := ih x h1 (by omega)
      have q2 := z1 (x + d) (by omega) (by omega)
      have e : x + (d + 1) = x + d + 1 := by omega
      rw [e]
      exact Rat.le_trans q1 q2
  have zero : ∀ k, a ≤ k → k < b → T k (r k) N / T k (r k) (c k) = 0 := fun k h1 h2 => by
    have q1 := zm (k - a) a (by omega) (by omega)
    have q2 := zm (b - (k + 1)) (k + 1) (by omega) (by omega)
    rw [show a + (k - a) = k by omega] at q1
    rw [show k + 1 + (b - (k + 1)) = b by omega] at q2
    have q3 := z1 k h1 h2
    have e : gp m cost (T (k + 1)) (β (k + 1)) N = gp m cost (T k) (β k) N := by grind
    rw [zs k h1 h2] at e
    have e2 : gp m cost (T k) (β k) (c k) * (T k (r k) N / T k (r k) (c k)) = 0 := by grind
    rcases Rat.mul_eq_zero.mp e2 with e3 | e3
    · have := (st k h1 h2).neg
      rw [e3] at this
      exact absurd this (by grind)
    · exact e3
  -- the right sides stay
  have rz : ∀ k, a ≤ k → k < b → T k (r k) N = 0 := fun k h1 h2 => by
    have h3 := zero k h1 h2
    have h4 : T k (r k) N / T k (r k) (c k) * T k (r k) (c k) = T k (r k) N := div_mul_self (st k h1 h2).pos
    rw [h3] at h4
    grind
  have rs : ∀ k, a ≤ k → k < b → ∀ i, T (k + 1) i N = T k i N := fun k h1 h2 i => by
    rw [nt k h1 h2]
    by_cases q : i = r k
    · rw [q, piv_r, zero k h1 h2, rz k h1 h2]
    · rw [piv_o q, zero k h1 h2]
      grind
  have rc : ∀ (d x : Nat), a ≤ x → x + d ≤ b → ∀ i, T (x + d) i N = T x i N := by
    intro d
    induction d with
    | zero => intro x _ _ i; rfl
    | succ d ih =>
      intro x h1 h2 i
      rw [show x + (d + 1) = x + d + 1 by omega, rs (x + d) (by omega) (by omega), ih x h1 (by omega)]
  have ra : ∀ k, a ≤ k → k ≤ b → ∀ i, T k i N = T a i N := fun k h1 h2 i => by
    have := rc (k - a) a (by omega) (by omega) i
    rwa [show a + (k - a) = k by omega] at this
  -- the greatest column that comes in
  obtain ⟨k2, g1, g2, g3⟩ := maxk c a (b - a - 1)
  rw [show a + (b - a - 1 + 1) = b by omega] at g2 g3
  have s2 := st k2 g1 g2
  -- it goes out, too
  have out : ∃ k1, a ≤ k1 ∧ k1 < b ∧ r k1 = r k2 ∧ β k1 (r k2) = c k2 := by
    apply Classical.byContradiction
    intro no
    have no' : ∀ k, a ≤ k → k < b → ¬ (r k = r k2 ∧ β k (r k2) = c k2) := fun k h1 h2 z => no ⟨k, h1, h2, z.1, z.2⟩
    have e1 : β (k2 + 1) (r k2) = c k2 := by rw [nb k2 g1 g2]; simp [pvb]
    have e2 := stay_eq nb (b - (k2 + 1)) (k2 + 1) (by omega) (by omega) (fun k h1 h2 => no' k (by omega) (by omega)) e1
    rw [show k2 + 1 + (b - (k2 + 1)) = b by omega, ← cy _ s2.hr] at e2
    have e3 := stay_eq nb (k2 - a) a (by omega) (by omega) (fun k h1 h2 => no' k (by omega) (by omega)) e2
    rw [show a + (k2 - a) = k2 by omega] at e3
    have e4 := gp_bas (cost := cost) (bs k2 g1 (by omega)) s2.hr
    rw [e3] at e4
    have := s2.neg
    grind
  obtain ⟨k1, f1, f2, f3, f4⟩ := out
  have s1 := st k1 f1 f2
  have b1 := bs k1 f1 (by omega)
  have hr1 : r k2 < m := s2.hr
  have st_ne : c k1 ≠ c k2 := fun e => by
    have e4 := gp_bas (cost := cost) b1 hr1
    rw [f4, ← e] at e4
    have := s1.neg
    grind
  have slt : c k1 < c k2 := by have := g3 k1 f1 f2; omega
  have hcN : c k1 < N := by have := s1.hc; omega
  -- the direction
  have kd := ker_col (c := c k1) b1 (by omega)
  have kd2 : Ker m N (T k2) (col m (T k1) (β k1) (c k1)) := (eq k2 g1 (by omega) _).mp ((eq k1 f1 (by omega) _).mpr kd)
  have dN : col m (T k1) (β k1) (c k1) N = 0 := by
    unfold col
    rw [sm_none]
    · have : N ≠ c k1 := by omega
      simp [dl, this]
      grind
    · intro i hi
      have : N ≠ β k1 i := by have := (b1 i hi).1; omega
      simp [dl, this]
  have c1 := gp_ker (cost := cost) (β := β k1) kd dN
  have c2 := gp_ker (cost := cost) (β := β k2) kd2 dN
  have full : ∀ f : Nat → Rat, sm N (fun j => f j * col m (T k1) (β k1) (c k1) j) = f (c k1) - sm m (fun i => T k1 i (c k1) * f (β k1 i)) := fun f => by
    have := sm_col (fun i hi => (b1 i hi).1) (c := c k1) (by omega) (T := T k1) f
    simp only [sm] at this
    rw [dN] at this
    grind
  rw [full] at c1 c2
  have b0 : sm m (fun i => T k1 i (c k1) * gp m cost (T k1) (β k1) (β k1 i)) = 0 := sm_none _ _ fun i hi => by rw [gp_bas b1 hi]; grind
  rw [b0, ← c2] at c1
  have p0 : 0 < sm m (fun i => T k1 i (c k1) * gp m cost (T k2) (β k2) (β k1 i)) := by
    have h1 := s1.neg
    have h2 := s2.low (c k1) slt
    grind
  obtain ⟨i, hi, hp⟩ := sm_pos _ _ p0
  have hne : gp m cost (T k2) (β k2) (β k1 i) ≠ 0 := fun z => by
    rw [z] at hp
    grind
  have h2i : β k2 i ≠ β k1 i := fun z => hne (by rw [← z]; exact gp_bas (bs k2 g1 (by omega)) hi)
  have inn : ∃ k3, a ≤ k3 ∧ k3 < b ∧ r k3 = i ∧ c k3 = β k1 i := by
    apply Classical.byContradiction
    intro no
    have no' : ∀ k, a ≤ k → k < b → ¬ (r k = i ∧ c k = β k1 i) := fun k h1 h2 z => no ⟨k, h1, h2, z.1, z.2⟩
    rcases Nat.lt_or_ge k2 k1 with q | q
    · have := stay_ne nb (k1 - k2) k2 g1 (by omega) (fun k h1 h2 => no' k (by omega) (by omega)) h2i
      rw [show k2 + (k1 - k2) = k1 by omega] at this
      exact this rfl
    · have e1 := stay_ne nb (b - k2) k2 g1 (by omega) (fun k h1 h2 => no' k (by omega) (by omega)) h2i
      rw [show k2 + (b - k2) = b by omega, ← cy i hi] at e1
      have e2 := stay_ne nb (k1 - a) a (by omega) (by omega) (fun k h1 h2 => no' k (by omega) (by omega)) e1
      rw [show a + (k1 - a) = k1 by omega] at e2
      exact e2 rfl
  obtain ⟨k3, x1, x2, x3, x4⟩ := inn
  have jle : β k1 i ≤ c k2 := by rw [← x4]; exact g3 k3 x1 x2
  have jne : β k1 i ≠ c k2 := fun z => by
    have ei : i = r k2 := b1.inj hi hr1 (by rw [z, f4])
    have h1 := s1.pos
    rw [f3, ← ei] at h1
    have h2 := s2.neg
    rw [← z] at h2
    have := Rat.mul_pos h1 (show 0 < -gp m cost (T k2) (β k2) (β k1 i) by grind)
    grind
  have jlt : β k1 i < c k2 := by omega
  have g0 := s2.low _ jlt
  have di : 0 < T k1 i (c k1) := by
    apply Classical.byContradiction
    intro z
    have := Rat.mul_nonneg (show 0 ≤ -T k1 i (c k1) by grind) g0
    grind
  have ri : T k1 i N = 0 := by
    have h1 := rz k3 x1 x2
    rw [x3, ra k3 x1 (by omega) i] at h1
    rw [ra k1 f1 (by omega) i]
    exact h1
  have le := (s1.least i hi di).2 (by
    rw [zero k1 f1 f2, ri]
    grind)
  rw [f3, f4] at le
  omega
end
/-! ## it ends -/
theorem pigeon : ∀ (n : Nat) (f : Nat → Nat), (∀ i, i ≤ n → f i < n) → ∃ i j, i < j ∧ j ≤ n ∧ f i = f j
  | 0, f, h => absurd (h 0 (Nat.le_refl _)) (Nat.not_lt_zero _)
  | n + 1, f, h => by
    by_cases q : ∃ i, i < n + 1 ∧ f i = f (n + 1)
    · obtain ⟨i, h1, h2⟩ := q
      exact ⟨i, n + 1, h1, Nat.le_refl _, h2⟩
    · -- take the value f (n+1) out
      let g : Nat → Nat := fun i => if f i < f (n + 1) then f i else f i - 1
      have hg : ∀ i, i ≤ n → g i < n := fun i hi => by
        have h1 := h i (by omega)
        have h2 := h (n + 1) (by omega)
        have h3 : f i ≠ f (n + 1) := fun e => q ⟨i, by omega, e⟩
        show (if f i < f (n + 1) then f i else f i - 1) < n
        split <;> omega
      obtain ⟨i, j, h1, h2, h3⟩ := pigeon n g hg
      refine ⟨i, j, h1, by omega, ?_⟩
      have e1 : f i ≠ f (n + 1) := fun e => q ⟨i, by omega, e⟩
      have e2 : f j ≠ f (n + 1) := fun e => q ⟨j, by omega, e⟩
      have h3' : (if f i < f (n + 1) then f i else f i - 1) = if f j < f (n + 1) then f j else f j - 1 := h3
      split at h3' <;> split at h3' <;> omega
/-- a row of small numbers as one number -/
def enc (N : Nat) : Nat → (Nat → Nat) → Nat
  | 0, _ => 0
  | m + 1, f => enc N m f * N + f m
theorem enc_lt {N : Nat} : ∀ {m : Nat} {f : Nat → Nat}, (∀ i, i < m → f i < N) → enc N m f < N ^ m
  | 0, _, _ => by simp [enc]
  | m + 1, f, h => by
    have h1 := enc_lt (m := m) (f := f) fun i hi => h i (by omega)
    have h2 := h m (by omega)
    have h3 : (enc N m f + 1) * N ≤ N ^ m * N := Nat.mul_le_mul_right _ h1
    simp only [enc, Nat.pow_succ]
    rw [Nat.add_mul] at h3
    omega
theorem enc_inj {N : Nat} : ∀ {m : Nat} {f g : Nat → Nat}, (∀ i, i < m → f i < N) → (∀ i, i < m → g i < N) → enc N m f = enc N m g → ∀ i, i < m → f i = g i
  | 0, _, _, _, _, _, i, hi => absurd hi (Nat.not_lt_zero _)
  | m + 1, f, g, hf, hg, e, i, hi => by
    have h1 := hf m (by omega)
    have h2 := hg m (by omega)
    simp only [enc] at e
    have e1 : f m = g m := by
      have := congrArg (· % N) e
      simp only [Nat.mul_comm _ N, Nat.mul_add_mod] at this
      rwa [Nat.mod_eq_of_lt h1, Nat.mod_eq_of_lt h2] at this
    have e2 : enc N m f = enc N m g := by
      rw [e1] at e
      have : enc N m f * N = enc N m g * N := by omega
      exact Nat.eq_of_mul_eq_mul_right (by omega) this
    by_cases q : i = m
    · rw [q]; exact e1
    · exact enc_inj (fun i hi => hf i (by omega)) (fun i hi => hg i (by omega)) e2 i (by omega)
/-- so many turns there are at most -/
theorem turns {m N many L : Nat} {cost : Nat → Rat} {T : Nat → Bd} {β : Nat → Nat → Nat} {r c : Nat → Nat} (hm : many ≤ N) (hc0 : cost N = 0) (b0 : Bas m N (T 0) (β 0)) (f0 : Fea m N (T 0))
    (st : ∀ k, k < L → Stp m N many cost (T k) (β k) (r k) (c k)) (nt : ∀ k, k < L → T (k + 1) = piv (T k) (r k) (c k)) (nb : ∀ k, k < L → β (k + 1) = pvb (β k) (r k) (c k)) : L < N ^ m := by
  have all : ∀ k, k ≤ L → Bas m N (T k) (β k) ∧ Fea m N (T k) ∧ Eqv m N (T 0) (T k) := by
    intro k
    induction k with
    | zero => intro _; exact ⟨b0, f0, .refl _ _ _⟩
    | succ k ih =>
      intro hk
      obtain ⟨h1, h2, h3⟩ := ih (by omega)
      have s := st k (by omega)
      have hp : T k (r k) (c k) ≠ 0 := by have := s.pos; grind
      rw [nt k (by omega), nb k (by omega)]
      exact ⟨piv_bas h1 s.hr (by have := s.hc; omega) hp, fea_piv h2 s, h3.trans (piv_eqv s.hr hp)⟩
  apply Classical.byContradiction
  intro no
  obtain ⟨i, j, h1, h2, h3⟩ := pigeon (N ^ m) (fun k => enc N m (β k)) fun k hk => enc_lt fun i hi => ((all k (by omega)).1 i hi).1
  have e := enc_inj (fun i' hi => ((all i (by omega)).1 i' hi).1) (fun i' hi => ((all j (by omega)).1 i' hi).1) h3
  exact nocyc (a := i) (b := j) hm hc0 h1 (fun k g1 g2 => (all k (by omega)).1) (fun k g1 g2 => (all k (by omega)).2.1) (fun k g1 g2 => (all i (by omega)).2.2.symm.trans (all k (by omega)).2.2)
    (fun k g1 g2 => st k (by omega)) (fun k g1 g2 => nt k (by omega)) (fun k g1 g2 => nb k (by omega)) e
end Lp
set_option maxHeartbeats 200000
namespace Lp
/-! ## how great the numbers of a board are -/
/-- each row over one denominator -/
def Sz (n m N : Nat) (T : Bd) : Prop := ∀ i, i < m → ∃ (d : Nat) (u : Nat → Int), 0 < d ∧ d ≤ n ∧ ∀ j, j ≤ N → (u j).natAbs ≤ n ∧ T i j = (u j : Rat) / (d : Rat)
theorem Sz.mono {n n' m N : Nat} {T : Bd} (h : Sz n m N T) (hn : n ≤ n') : Sz n' m N T := fun i hi => by
  obtain ⟨d, u, h1, h2, h3⟩ := h i hi
  exact ⟨d, u, h1, by omega, fun j hj => ⟨Nat.le_trans (h3 j hj).1 hn, (h3 j hj).2⟩⟩
theorem nat_int (n : Nat) : (((n : Nat) : Int) : Rat) = (n : Rat) := by
  first | exact Rat.intCast_natCast n | norm_cast | rfl
theorem frac_id (a b c d p : Rat) (hd : d ≠ 0) (hp : p ≠ 0) : a / d - (b / d) * (c / p) = (a * p - b * c) / (d * p) := by
  have : d * p ≠ 0 := by intro z; rcases Rat.mul_eq_zero.mp z with h | h <;> contradiction
  grind
theorem cast_pos {d : Nat} (h : 0 < d) : (0 : Rat) < (d : Rat) := by exact_mod_cast h
/-- a quotient of whole numbers, the lower one not 0: over one above 0 -/
theorem over_sign {a b : Int} (hb : b ≠ 0) : ∃ (s : Int) (d : Nat), (s = 1 ∨ s = -1) ∧ 0 < d ∧ d = b.natAbs ∧ ∀ a : Int, (a : Rat) / (b : Rat) = ((s * a : Int) : Rat) / (d : Rat) := by
  rcases Int.lt_or_lt_of_ne hb with h | h
  · refine ⟨-1, b.natAbs, .inr rfl, by omega, rfl, fun a => ?_⟩
    have e : ((b.natAbs : Nat) : Int) = -b := by omega
    have e2 : ((b.natAbs : Nat) : Rat) = -(b : Rat) := by
      have := congrArg (fun z : Int => (z : Rat)) e
      simp only [nat_int] at this
      rw [this]
      simp
    have hbr : (b : Rat) ≠ 0 := by exact_mod_cast hb
    rw [e2]
    have : ((-1 * a : Int) : Rat) = -(a : Rat) := by
      rw [show (-1 * a : Int) = -a by omega]
      simp
    rw [this]
    grind
  · refine ⟨1, b.natAbs, .inl rfl, by omega, rfl, fun a => ?_⟩
    have e : ((b.natAbs : Nat) : Int) = b := by omega
    have e2 : ((b.natAbs : Nat) : Rat) = (b : Rat) := by
      have := congrArg (fun z : Int => (z : Rat)) e
      simp only [nat_int] at this
      exact this
    rw [e2, Int.one_mul]
theorem natAbs_sign {s a : Int} (hs : s = 1 ∨ s = -1) : (s * a).natAbs = a.natAbs := by
  rcases hs with rfl | rfl <;> omega
theorem Sz.piv {n m N : Nat} {T : Bd} {r c : Nat} (h : Sz n m N T) (hn : 1 ≤ n) (hr : r < m) (hc : c ≤ N) (hp : T r c ≠ 0) : Sz (2 * n * n) m N (piv T r c) := fun i hi => by
  obtain ⟨e, v, e1, e2, e3⟩ := h r hr
  have vc : v c ≠ 0 := fun z => by
    apply hp
    rw [(e3 c hc).2, z]
    have : ((0 : Int) : Rat) = 0 := rfl
    grind
  have vcr : (v c : Rat) ≠ 0 := by exact_mod_cast vc
  have er : (e : Rat) ≠ 0 := by have := cast_pos e1; grind
  have quo : ∀ j, j ≤ N → T r j / T r c = (v j : Rat) / (v c : Rat) := fun j hj => by
    rw [(e3 j hj).2, (e3 c hc).2]
    grind
  have nn : n ≤ 2 * n * n := by
    have : n * 1 ≤ n * (2 * n) := Nat.mul_le_mul_left n (by omega)
    have e : n * (2 * n) = 2 * n * n := by rw [Nat.mul_comm n (2 * n)]
    omega
  by_cases q : i = r
  · subst q
    obtain ⟨s, d, hs, hd, hd2, hq⟩ := over_sign (a := 0) vc
    refine ⟨d, fun j => s * v j, hd, ?_, fun j hj => ⟨?_, ?_⟩⟩
    · have := (e3 c hc).1; omega
    · rw [natAbs_sign hs]; have := (e3 j hj).1; omega
    · rw [piv_r, quo j hj, hq]
  · obtain ⟨d, u, d1, d2, d3⟩ := h i hi
    have dr : (d : Rat) ≠ 0 := by have := cast_pos d1; grind
    have hb : (d : Int) * v c ≠ 0 := Int.mul_ne_zero (by omega) vc
    obtain ⟨s, f, hs, hf, hf2, hq⟩ := over_sign (a := 0) hb
    have ab : ∀ a b : Int, a.natAbs ≤ n → b.natAbs ≤ n → (a * b).natAbs ≤ n * n := fun a b ha hb => by
      rw [Int.natAbs_mul]
      exact Nat.mul_le_mul ha hb
    have n2 : 2 * n * n = n * n + n * n := by rw [Nat.mul_assoc]; omega
    refine ⟨f, fun j => s * (u j * v c - u c * v j), hf, ?_, fun j hj => ⟨?_, ?_⟩⟩
    · rw [hf2]
      have := ab (d : Int) (v c) (by omega) (e3 c hc).1
      omega
    · rw [natAbs_sign hs]
      have h1 := ab (u j) (v c) (d3 j hj).1 (e3 c hc).1
      have h2 := ab (u c) (v j) (d3 c hc).1 (e3 j hj).1
      omega
    · rw [piv_o q, quo j hj, (d3 j hj).2, (d3 c hc).2, ← hq]
      have c1 : ((u j * v c - u c * v j : Int) : Rat) = (u j : Rat) * (v c : Rat) - (u c : Rat) * (v j : Rat) := by
        simp
      have c2 : (((d : Int) * v c : Int) : Rat) = (d : Rat) * (v c : Rat) := by simp [nat_int]
      rw [c1, c2]
      exact frac_id _ _ _ _ _ dr vcr
theorem Sz.of {n m N : Nat} {S T : Bd} (h : Sz n m N S) (hk : ∀ k, k < m → ∃ i, i < m ∧ ∀ j, j ≤ N → T k j = S i j) : Sz n m N T := fun k h1 => by
  obtain ⟨i, hi, e⟩ := hk k h1
  obtain ⟨d, u, h2, h3, h4⟩ := h i hi
  exact ⟨d, u, h2, h3, fun j hj => ⟨(h4 j hj).1, by rw [e j hj]; exact (h4 j hj).2⟩⟩
/-! ## any basis is come to by few turns -/
open Classical in
noncomputable def cnt (m : Nat) (σ τ : Nat → Nat) : Nat → Nat
  | 0 => 0
  | k + 1 => cnt m σ τ k + if ∃ i, i < m ∧ σ k = τ i then 0 else 1
theorem cnt_le (m : Nat) (σ τ : Nat → Nat) : ∀ k, cnt m σ τ k ≤ k
  | 0 => Nat.le_refl _
  | k + 1 => by
    have := cnt_le m σ τ k
    unfold cnt
    split <;> omega
theorem cnt_mono {m : Nat} {σ σ' τ : Nat → Nat} (h : ∀ k, k < m → (∃ i, i < m ∧ σ k = τ i) → ∃ i, i < m ∧ σ' k = τ i) : ∀ k, k ≤ m → cnt m σ' τ k ≤ cnt m σ τ k
  | 0, _ => Nat.le_refl _
  | k + 1, hk => by
    have ih := cnt_mono h k (by omega)
    unfold cnt
    by_cases q : ∃ i, i < m ∧ σ k = τ i
    · rw [if_pos q, if_pos (h k (by omega) q)]; omega
    · rw [if_neg q]
      split <;> omega
theorem cnt_lt {m : Nat} {σ σ' τ : Nat → Nat} (h : ∀ k, k < m → (∃ i, i < m ∧ σ k = τ i) → ∃ i, i < m ∧ σ' k = τ i) {x : Nat} (h1 : ¬ ∃ i, i < m ∧ σ x = τ i) (h2 : ∃ i, i < m ∧ σ' x = τ i) : ∀ k, x < k → k ≤ m → cnt m σ' τ k < cnt m σ τ k
  | 0, hx, _ => absurd hx (Nat.not_lt_zero _)
  | k + 1, hx, hk => by
    by_cases e : x = k
    · subst e
      have ih := cnt_mono h x (by omega)
      unfold cnt
      rw [if_neg h1, if_pos h2]
      omega
    · have ih := cnt_lt h h1 h2 k (by omega) (by omega)
      unfold cnt
      by_cases q : ∃ i, i < m ∧ σ k = τ i
      · rw [if_pos q, if_pos (h k (by omega) q)]; omega
      · rw [if_neg q]
        split <;> omega
theorem cnt_zero {m : Nat} {σ τ : Nat → Nat} : ∀ k, cnt m σ τ k = 0 → ∀ x, x < k → ∃ i, i < m ∧ σ x = τ i
  | 0, _, x, hx => absurd hx (Nat.not_lt_zero _)
  | k + 1, h, x, hx => by
    unfold cnt at h
    have h1 : cnt m σ τ k = 0 := by omega
    by_cases e : x = k
    · subst e
      apply Classical.byContradiction
      intro q
      rw [if_neg q] at h
      omega
    · exact cnt_zero k h1 x (by omega)
/-- the bound behind so many turns -/
def gi : Nat → Nat → Nat
  | 0, n => n
  | e + 1, n => gi e (2 * n * n)
theorem gi_le {n n' : Nat} (h : n ≤ n') : ∀ e, gi e n ≤ gi e n' := by
  intro e
  induction e generalizing n n' with
  | zero => exact h
  | succ e ih => exact ih (Nat.mul_le_mul (Nat.mul_le_mul_left 2 h) h)
theorem gi_ge {n : Nat} (h : 1 ≤ n) : ∀ e, n ≤ gi e n := by
  intro e
  induction e generalizing n with
  | zero => exact Nat.le_refl _
  | succ e ih =>
    have : n ≤ 2 * n * n := by
      have : n * 1 ≤ n * (2 * n) := Nat.mul_le_mul_left n (by omega)
      have e : n * (2 * n) = 2 * n * n := by rw [Nat.mul_comm n (2 * n)]
      omega
    exact Nat.le_trans this (ih (by omega))
theorem gi_up {n : Nat} (h : 1 ≤ n) : ∀ {e e' : Nat}, e ≤ e' → gi e n ≤ gi e' n := by
  intro e
  induction e generalizing n with
  | zero => intro e' _; exact gi_ge h e'
  | succ e ih =>
    intro e' he
    cases e' with
    | zero => omega
    | succ e' =>
      have : 1 ≤ 2 * n * n := Nat.mul_pos (by omega) (by omega)
      exact ih this (by omega)
theorem exch {m N : Nat} {T : Bd} {τ : Nat → Nat} (ht : Bas m N T τ) : ∀ (e n : Nat) (S : Bd) (σ : Nat → Nat), 1 ≤ n → Bas m N S σ → Eqv m N S T → cnt m σ τ m ≤ e → Sz n m N S → Sz (gi e n) m N T := by
  intro e
  have done : ∀ (n : Nat) (S : Bd) (σ : Nat → Nat), Bas m N S σ → Eqv m N S T → cnt m σ τ m = 0 → Sz n m N S → Sz n m N T := by
    intro n S σ hs he hc sz
    have all := cnt_zero m hc
    refine sz.of fun k hk => ?_
    have row : ∀ j, j ≤ N → T k j = sm m (fun i => S i j * T k (σ i)) := fun j hj => told hs ht he (by omega) hk
    have val : ∀ i, i < m → T k (σ i) = if σ i = τ k then 1 else 0 := fun i hi => by
      obtain ⟨l, hl, e⟩ := all i hi
      rw [e, (ht l hl).2 k hk]
      by_cases q : k = l
      · subst q; simp [dl]
      · have : τ l ≠ τ k := fun z => q (ht.inj hl hk z).symm
        simp [dl, q, this]
    by_cases q : ∃ i, i < m ∧ σ i = τ k
    · obtain ⟨i, hi, e⟩ := q
      refine ⟨i, hi, fun j hj => ?_⟩
      rw [row j hj, sm_at m i _ hi fun l hl hne => by
        have : σ l ≠ τ k := fun z => hne (hs.inj hl hi (by rw [z, e]))
        rw [val l hl, if_neg this]
        grind]
      rw [val i hi, if_pos e]
      grind
    · exfalso
      have h1 := (ht k hk).2 k hk
      rw [row (τ k) (by have := (ht k hk).1; omega), sm_none] at h1
      · simp [dl] at h1
      · intro i hi
        rw [val i hi, if_neg fun z => q ⟨i, hi, z⟩]
        grind
  induction e with
  | zero =>
    intro n S σ _ hs he hc sz
    exact done n S σ hs he (by omega) sz
  | succ e ih =>
    intro n S σ hn hs he hc sz
    by_cases z : cnt m σ τ m = 0
    · exact (done n S σ hs he z sz).mono (gi_ge hn _)
    · -- a row whose basic column is none of the other basis
      have some_ : ∃ i, i < m ∧ ¬ ∃ k, k < m ∧ σ i = τ k := by
        apply Classical.byContradiction
        intro no
        have : ∀ k, k ≤ m → cnt m σ τ k = 0 := by
          intro k
          induction k with
          | zero => intro _; rfl
          | succ k ihk =>
            intro hk
            unfold cnt
            rw [ihk (by omega), if_pos (Classical.byContradiction fun w => no ⟨k, by omega, w⟩)]
        exact z (this m (Nat.le_refl _))
      obtain ⟨i0, hi0, ni⟩ := some_
      have t1 := told ht hs he.symm (c := σ i0) (by have := (hs i0 hi0).1; omega) hi0
      rw [(hs i0 hi0).2 i0 hi0] at t1
      obtain ⟨k, hk, nz⟩ := sm_ne m (fun i => T i (σ i0) * S i0 (τ i)) (by rw [← t1]; simp [dl])
      have nz2 : S i0 (τ k) ≠ 0 := fun w => nz (by rw [w]; grind)
      have hτ := (ht k hk).1
      have nb : ∀ l, l < m → σ l ≠ τ k := fun l hl w => by
        have h1 := (hs l hl).2 i0 hi0
        rw [w] at h1
        by_cases q : i0 = l
        · subst q; exact ni ⟨k, hk, w⟩
        · simp [dl, q] at h1
          exact nz2 h1
      refine ih (2 * n * n) (piv S i0 (τ k)) (pvb σ i0 (τ k)) (Nat.mul_pos (by omega) (by omega)) (piv_bas hs hi0 hτ nz2) ((piv_eqv hi0 nz2).symm.trans he) ?_ (sz.piv hn hi0 (by omega) nz2)
      have := cnt_lt (m := m) (σ := σ) (σ' := pvb σ i0 (τ k)) (τ := τ) (fun l hl w => by
        by_cases q : l = i0
        · subst q; exact ⟨k, hk, by simp [pvb]⟩
        · obtain ⟨y, h1, h2⟩ := w
          exact ⟨y, h1, by simp [pvb, q, h2]⟩) ni ⟨k, hk, by simp [pvb]⟩ m hi0 (Nat.le_refl _)
      omega
/-- all boards of one system have numbers that small -/
theorem size_of {m N n : Nat} {S T : Bd} {σ τ : Nat → Nat} (hn : 1 ≤ n) (hs : Bas m N S σ) (ht : Bas m N T τ) (e : Eqv m N S T) (sz : Sz n m N S) : Sz (gi m n) m N T :=
  exch ht m n S σ hn hs e (cnt_le _ _ _ _) sz
end Lp
set_option maxHeartbeats 400000
namespace Lp
/-! ## what a board in its end shows -/
/-- spare columns behind the first so many: a unit each -/
def Spare (m many : Nat) (A : Bd) : Prop := ∀ i, i < m → ∀ l, l < m → A i (many + l) = dl i l
section
variable {m many : Nat} {A T : Bd} {β : Nat → Nat} {cost : Nat → Rat}
theorem bas0 (h : Spare m many A) : Bas m (many + m) A (fun i => many + i) := fun i hi => ⟨by dsimp only; omega, fun k hk => h k hk i hi⟩
/-- the price of a sum -/
def pr (m many : Nat) (cost : Nat → Rat) (T : Bd) (β : Nat → Nat) (i : Nat) : Rat := cost (many + i) - gp m cost T β (many + i)
theorem pr_eq (i : Nat) : pr m many cost T β i = sm m (fun k => cost (β k) * T k (many + i)) := by
  unfold pr gp
  grind
theorem gp_pr (h : Spare m many A) (hT : Bas m (many + m) T β) (e : Eqv m (many + m) A T) {j : Nat} (hj : j < many + m) : gp m cost T β j = cost j - sm m (fun i => A i j * pr m many cost T β i) := by
  have b := bas0 h
  have k1 := ker_col b (c := j) (by omega)
  have k2 := (e _).mp k1
  have hN : col m A (fun i => many + i) j (many + m) = 0 := by
    unfold col
    rw [sm_none]
    · have : many + m ≠ j := by omega
      simp [dl, this]
      grind
    · intro i hi
      have : many + m ≠ many + i := by omega
      simp only [dl, if_neg this]
      grind
  have c1 := gp_ker (cost := cost) (β := β) k2 hN
  have full : ∀ f : Nat → Rat, sm (many + m) (fun l => f l * col m A (fun i => many + i) j l) = f j - sm m (fun i => A i j * f (many + i)) := fun f => by
    have := sm_col (m := m) (N := many + m) (β := fun i => many + i) (fun i hi => by omega) (c := j) (by omega) (T := A) f
    simp only [sm] at this
    rw [hN] at this
    grind
  rw [full, full] at c1
  have e2 : sm m (fun i => A i j * pr m many cost T β i) = sm m (fun i => A i j * cost (many + i)) - sm m (fun i => A i j * gp m cost T β (many + i)) := by
    rw [← sm_sub]
    exact sm_congr fun i _ => by unfold pr; grind
  rw [e2]
  grind
theorem right_pr (h : Spare m many A) (hT : Bas m (many + m) T β) (e : Eqv m (many + m) A T) : sm m (fun k => cost (β k) * T k (many + m)) = sm m (fun i => A i (many + m) * pr m many cost T β i) := by
  have b := bas0 h
  have e1 : sm m (fun k => cost (β k) * T k (many + m)) = sm m (fun k => sm m (fun i => cost (β k) * (A i (many + m) * T k (many + i)))) := by
    refine sm_congr fun k hk => ?_
    rw [told b hT e (c := many + m) (by omega) hk, ← sm_mul]
  rw [e1, sm_comm]
  refine sm_congr fun i hi => ?_
  rw [pr_eq, ← sm_mul]
  exact sm_congr fun k hk => by grind
theorem primal (h : Spare m many A) (hT : Bas m (many + m) T β) (e : Eqv m (many + m) A T) {i : Nat} (hi : i < m) : A i (many + m) = sm m (fun k => T k (many + m) * A i (β k)) := told hT (bas0 h) e.symm (by omega) hi
/-- the numbers by which the first columns are taken -/
def wt (m N : Nat) (T : Bd) (β : Nat → Nat) (j : Nat) : Rat := sm m (fun k => T k N * dl j (β k))
theorem wt_at {N : Nat} (hT : Bas m N T β) {k : Nat} (hk : k < m) : wt m N T β (β k) = T k N := by
  unfold wt
  rw [sm_at m k _ hk fun i hi hne => by
    have : β k ≠ β i := fun z => hne (hT.inj hi hk z.symm)
    simp only [dl, if_neg this]; grind]
  simp [dl]
theorem wt_no {N : Nat} {j : Nat} (h : ∀ k, k < m → β k ≠ j) : wt m N T β j = 0 := sm_none _ _ fun k hk => by
  have : j ≠ β k := fun z => h k hk z.symm
  simp only [dl, if_neg this]; grind
theorem wt_nn {N : Nat} (hf : Fea m N T) (j : Nat) : 0 ≤ wt m N T β j := sm_nonneg _ _ fun k hk => by
  unfold dl
  have := hf k hk
  split <;> grind
/-- a sum over the columns that are taken -/
theorem wt_sum {N : Nat} (hz : ∀ k, k < m → many ≤ β k → T k N = 0) (f : Nat → Rat) : sm many (fun j => f j * wt m N T β j) = sm m (fun k => T k N * f (β k)) := by
  unfold wt
  have e : sm many (fun j => f j * sm m (fun k => T k N * dl j (β k))) = sm many (fun j => sm m (fun k => T k N * (f j * dl j (β k)))) := by
    refine sm_congr fun j _ => ?_
    rw [← sm_mul]
    exact sm_congr fun k _ => by grind
  rw [e, sm_comm]
  refine sm_congr fun k hk => ?_
  rw [sm_mul]
  by_cases q : β k < many
  · rw [sm_dl _ _ _ q]
  · rw [sm_dl' _ _ _ q, hz k hk (by omega)]
    grind
/-! ### the first costs: 1 for each spare column -/
def cost1 (many N : Nat) (j : Nat) : Rat := if many ≤ j ∧ j < N then 1 else 0
theorem cost1_nn (many N j : Nat) : 0 ≤ cost1 many N j := by unfold cost1; split <;> grind
/-- something can leave -/
theorem leave1 {N c : Nat} (hc : c < many) (h : gp m (cost1 many N) T β c < 0) : ∃ i, i < m ∧ 0 < T i c := by
  have hz : cost1 many N c = 0 := by unfold cost1; rw [if_neg (by omega)]
  unfold gp at h
  rw [hz] at h
  obtain ⟨i, hi, hp⟩ := sm_pos m (fun i => cost1 many N (β i) * T i c) (by grind)
  refine ⟨i, hi, ?_⟩
  unfold cost1 at hp
  split at hp <;> grind
theorem farkas (h : Spare m many A) (hT : Bas m (many + m) T β) (e : Eqv m (many + m) A T) (hf : Fea m (many + m) T) (low : ∀ j, j < many → 0 ≤ gp m (cost1 many (many + m)) T β j) {k : Nat} (hk : k < m) (hb : many ≤ β k) (hp : 0 < T k (many + m)) :
    (∀ j, j < many → sm m (fun i => A i j * pr m many (cost1 many (many + m)) T β i) ≤ 0) ∧ 0 < sm m (fun i => A i (many + m) * pr m many (cost1 many (many + m)) T β i) := by
  refine ⟨fun j hj => ?_, ?_⟩
  · have h1 := gp_pr (cost := cost1 many (many + m)) h hT e (j := j) (by omega)
    have h2 := low j hj
    have hz : cost1 many (many + m) j = 0 := by unfold cost1; rw [if_neg (by omega)]
    rw [hz] at h1
    grind
  · rw [← right_pr h hT e]
    have h1 : (fun i => cost1 many (many + m) (β i) * T i (many + m)) k ≤ sm m (fun i => cost1 many (many + m) (β i) * T i (many + m)) := by
      have : sm m (fun i => if i = k then cost1 many (many + m) (β i) * T i (many + m) else 0) ≤ sm m (fun i => cost1 many (many + m) (β i) * T i (many + m)) := sm_le _ _ _ fun i hi => by
        split
        · exact Rat.le_refl
        · exact Rat.mul_nonneg (cost1_nn _ _ _) (hf i hi)
      rw [sm_at m k _ hk fun i _ hne => by simp [hne]] at this
      simpa using this
    have h2 : cost1 many (many + m) (β k) = 1 := by unfold cost1; rw [if_pos ⟨hb, (hT k hk).1⟩]
    have h3 : cost1 many (many + m) (β k) * T k (many + m) ≤ sm m (fun i => cost1 many (many + m) (β i) * T i (many + m)) := h1
    rw [h2] at h3
    grind
/-! ### the second costs: 0 for each spare column -/
/-- rows whose basic column is a spare one have nothing -/
def Ded (m many N : Nat) (T : Bd) (β : Nat → Nat) : Prop := ∀ k, k < m → many ≤ β k → T k N = 0 ∧ ∀ j, j < many → T k j = 0
theorem ded_piv {N r c : Nat} (h : Ded m many N T β) (hr : r < m) (hc : c < many) (hp : T r c ≠ 0) : Ded m many N (piv T r c) (pvb β r c) := fun k hk hb => by
  by_cases q : k = r
  · subst q
    simp [pvb] at hb
    omega
  · have e : pvb β r c k = β k := by simp [pvb, q]
    rw [e] at hb
    obtain ⟨h1, h2⟩ := h k hk hb
    refine ⟨?_, fun j hj => ?_⟩
    · rw [piv_o q, h1, h2 c hc]; grind
    · rw [piv_o q, h2 j hj, h2 c hc]; grind
/-- it is not without end, if some prices are let -/
theorem bounded {N c : Nat} {π : Nat → Rat} (hN : N = many + m) (hT : Bas m N T β) (e : Eqv m N A T) (hd : Ded m many N T β) (hs : ∀ j, many ≤ j → cost j = 0) (hπ : ∀ j, j < many → sm m (fun i => A i j * π i) ≤ cost j)
    (hc : c < many) (hg : gp m cost T β c < 0) : ∃ i, i < m ∧ 0 < T i c := by
  apply Classical.byContradiction
  intro no
  have no' : ∀ i, i < m → T i c ≤ 0 := fun i hi => Classical.byContradiction fun z => no ⟨i, hi, by grind⟩
  have kd := ker_col (c := c) hT (by omega)
  have ka := (e _).mpr kd
  have far : ∀ j, many ≤ j → col m T β c j = 0 := fun j hj => by
    unfold col
    have : j ≠ c := by omega
    rw [sm_none]
    · simp [dl, this]; grind
    · intro i hi
      by_cases q : j = β i
      · rw [(hd i hi (by omega)).2 c hc]; grind
      · simp only [dl, if_neg q]; grind
  have cut : ∀ f : Nat → Rat, sm (N + 1) (fun j => f j * col m T β c j) = sm many (fun j => f j * col m T β c j) := fun f => by
    have : ∀ k, sm (many + k) (fun j => f j * col m T β c j) = sm many (fun j => f j * col m T β c j) := by
      intro k
      induction k with
      | zero => rfl
      | succ k ih =>
        rw [show many + (k + 1) = (many + k) + 1 by omega]
        simp only [sm]
        rw [ih, far (many + k) (by omega)]
        grind
    have := this (m + 1)
    rw [show many + (m + 1) = N + 1 by omega] at this
    exact this
  have dn : ∀ j, 0 ≤ col m T β c j := fun j => by
    unfold col
    have h1 : sm m (fun i => T i c * dl j (β i)) ≤ sm m (fun _ => 0) := sm_le _ _ _ fun i hi => by
      have := no' i hi
      unfold dl
      split <;> grind
    rw [sm_zero] at h1
    unfold dl at *
    split <;> grind
  have g1 : sm (N + 1) (fun j => gp m cost T β j * col m T β c j) = gp m cost T β c := by
    rw [sm_col (fun i hi => (hT i hi).1) (by omega), sm_none _ _ fun i hi => by rw [gp_bas hT hi]; grind]
    grind
  have g2 : sm many (fun j => cost j * col m T β c j) = gp m cost T β c := by
    have hx : col m T β c N = 0 := far N (by omega)
    have h3 := gp_ker (cost := cost) (β := β) kd hx
    have h4 : ∀ f : Nat → Rat, sm (N + 1) (fun j => f j * col m T β c j) = sm N (fun j => f j * col m T β c j) := fun f => by
      simp only [sm]
      rw [hx]
      grind
    rw [← cut, h4, ← h3, ← h4, g1]
  have g3 : sm many (fun j => sm m (fun i => A i j * π i) * col m T β c j) ≤ sm many (fun j => cost j * col m T β c j) := sm_le _ _ _ fun j hj => Rat.mul_le_mul_of_nonneg_right (hπ j hj) (dn j)
  have g4 : sm many (fun j => sm m (fun i => A i j * π i) * col m T β c j) = 0 := by
    have : sm many (fun j => sm m (fun i => A i j * π i) * col m T β c j) = sm many (fun j => sm m (fun i => π i * (A i j * col m T β c j))) := by
      refine sm_congr fun j _ => ?_
      rw [← sm_mulr]
      exact sm_congr fun i _ => by grind
    rw [this, sm_comm, sm_none]
    intro i hi
    rw [sm_mul, ← cut, ka i hi]
    grind
  rw [g4, g2] at g3
  grind
theorem optimum (h : Spare m many A) (hT : Bas m (many + m) T β) (e : Eqv m (many + m) A T) (hf : Fea m (many + m) T) (hd : Ded m many (many + m) T β) (hs : ∀ j, many ≤ j → cost j = 0) (low : ∀ j, j < many → 0 ≤ gp m cost T β j) :
    (∀ i, i < m → sm many (fun j => A i j * wt m (many + m) T β j) = A i (many + m)) ∧ (∀ j, j < many → sm m (fun i => A i j * pr m many cost T β i) ≤ cost j) ∧
      sm many (fun j => cost j * wt m (many + m) T β j) = sm m (fun i => A i (many + m) * pr m many cost T β i) := by
  have hz : ∀ k, k < m → many ≤ β k → T k (many + m) = 0 := fun k hk hb => (hd k hk hb).1
  refine ⟨fun i hi => ?_, fun j hj => ?_, ?_⟩
  · rw [wt_sum hz (fun j => A i j)]
    exact (primal h hT e hi).symm
  · have h1 := gp_pr (cost := cost) h hT e (j := j) (by omega)
    have h2 := low j hj
    grind
  · rw [wt_sum hz, ← right_pr h hT e]
    exact sm_congr fun k _ => by grind
end
/-! ## rows of turns -/
inductive Run (m N many : Nat) (cost : Nat → Rat) (T0 : Bd) (β0 : Nat → Nat) : Nat → Bd → (Nat → Nat) → Prop
  | nil : Run m N many cost T0 β0 0 T0 β0
  | step {L : Nat} {T : Bd} {β : Nat → Nat} {r c : Nat} : Run m N many cost T0 β0 L T β → Stp m N many cost T β r c → Run m N many cost T0 β0 (L + 1) (piv T r c) (pvb β r c)
theorem Run.seq {m N many L : Nat} {cost : Nat → Rat} {T0 T : Bd} {β0 β : Nat → Nat} (h : Run m N many cost T0 β0 L T β) : ∃ (Ts : Nat → Bd) (βs : Nat → Nat → Nat) (r c : Nat → Nat), Ts 0 = T0 ∧ βs 0 = β0 ∧ Ts L = T ∧ βs L = β ∧
    (∀ k, k < L → Stp m N many cost (Ts k) (βs k) (r k) (c k)) ∧ (∀ k, k < L → Ts (k + 1) = piv (Ts k) (r k) (c k)) ∧ (∀ k, k < L → βs (k + 1) = pvb (βs k) (r k) (c k)) := by
  induction h with
  | nil => exact ⟨fun _ => T0, fun _ => β0, fun _ => 0, fun _ => 0, rfl, rfl, rfl, rfl, nofun, nofun, nofun⟩
  | @step L T β r c hr hs ih =>
    obtain ⟨Ts, βs, rs, cs, h1, h2, h3, h4, h5, h6, h7⟩ := ih
    refine ⟨fun k => if k ≤ L then Ts k else piv T r c, fun k => if k ≤ L then βs k else pvb β r c, fun k => if k < L then rs k else r, fun k => if k < L then cs k else c, by simp [h1], by simp [h2], if_neg (by omega), if_neg (by omega), fun k hk => ?_, fun k hk => ?_, fun k hk => ?_⟩
    · by_cases q : k < L
      · simp only [if_pos q, if_pos (Nat.le_of_lt q)]
        exact h5 k q
      · have : k = L := by omega
        subst this
        simp only [if_neg (Nat.lt_irrefl _), if_pos (Nat.le_refl _), h3, h4]
        exact hs
    · by_cases q : k < L
      · simp only [if_pos q, if_pos (Nat.le_of_lt q), if_pos (show k + 1 ≤ L by omega)]
        exact h6 k q
      · have : k = L := by omega
        subst this
        simp only [if_neg (Nat.lt_irrefl _), if_pos (Nat.le_refl _), if_neg (show ¬ k + 1 ≤ k by omega), h3]
    · by_cases q : k < L
      · simp only [if_pos q, if_pos (Nat.le_of_lt q), if_pos (show k + 1 ≤ L by omega)]
        exact h7 k q
      · have : k = L := by omega
        subst this
        simp only [if_neg (Nat.lt_irrefl _), if_pos (Nat.le_refl _), if_neg (show ¬ k + 1 ≤ k by omega), h4]
theorem Run.lt {m N many L : Nat} {cost : Nat → Rat} {T0 T : Bd} {β0 β : Nat → Nat} (h : Run m N many cost T0 β0 L T β) (hm : many ≤ N) (hc : cost N = 0) (b0 : Bas m N T0 β0) (f0 : Fea m N T0) : L < N ^ m := by
  obtain ⟨Ts, βs, r, c, h1, h2, h3, h4, h5, h6, h7⟩ := h.seq
  exact turns (T := Ts) (β := βs) hm hc (by rw [h1, h2]; exact b0) (by rw [h1]; exact f0) h5 h6 h7
theorem Run.inv {m N many L : Nat} {cost : Nat → Rat} {T0 T : Bd} {β0 β : Nat → Nat} (h : Run m N many cost T0 β0 L T β) (hm : many ≤ N) (b0 : Bas m N T0 β0) (f0 : Fea m N T0) : Bas m N T β ∧ Fea m N T ∧ Eqv m N T0 T := by
  induction h with
  | nil => exact ⟨b0, f0, .refl _ _ _⟩
  | step hr hs ih =>
    obtain ⟨h1, h2, h3⟩ := ih
    have hp := hs.pos
    rename_i L T β r c
    have hp' : T r c ≠ 0 := fun z => by rw [z] at hp; exact absurd hp (by grind)
    exact ⟨piv_bas h1 hs.hr (by have := hs.hc; omega) hp', fea_piv h2 hs, h3.trans (piv_eqv hs.hr hp')⟩
theorem Run.ded {m N many L : Nat} {cost : Nat → Rat} {T0 T : Bd} {β0 β : Nat → Nat} (h : Run m N many cost T0 β0 L T β) (d0 : Ded m many N T0 β0) : Ded m many N T β := by
  induction h with
  | nil => exact d0
  | step hr hs ih =>
    have hp := hs.pos
    exact ded_piv ih hs.hr hs.hc fun z => by rw [z] at hp; exact absurd hp (by grind)
end Lp
set_option maxHeartbeats 400000
namespace Lp
/-! ## one way alone -/
theorem Stp.det {m N many : Nat} {cost : Nat → Rat} {T : Bd} {β : Nat → Nat} {r c r' c' : Nat} (hb : Bas m N T β) (h : Stp m N many cost T β r c) (h' : Stp m N many cost T β r' c') : r = r' ∧ c = c' := by
  have hc : c = c' := by
    rcases Nat.lt_trichotomy c c' with q | q | q
    · have h1 := h'.low c q
      have h2 := h.neg
      exfalso
      grind
    · exact q
    · have h1 := h.low c' q
      have h2 := h'.neg
      exfalso
      grind
  subst hc
  obtain ⟨a1, a2⟩ := h.least r' h'.hr h'.pos
  obtain ⟨b1, b2⟩ := h'.least r h.hr h.pos
  have e : T r N / T r c = T r' N / T r' c := by grind
  have e2 : β r = β r' := Nat.le_antisymm (a2 e) (b2 e.symm)
  exact ⟨hb.inj h.hr h'.hr e2, rfl⟩
theorem Run.one {m N many : Nat} {cost : Nat → Rat} {T0 : Bd} {β0 : Nat → Nat} (hm : many ≤ N) (b0 : Bas m N T0 β0) (f0 : Fea m N T0) : ∀ {L : Nat} {T : Bd} {β : Nat → Nat}, Run m N many cost T0 β0 L T β → ∀ {T' : Bd} {β' : Nat → Nat}, Run m N many cost T0 β0 L T' β' → T = T' ∧ β = β' := by
  intro L T β h
  induction h with
  | nil =>
    intro T' β' h'
    cases h'
    exact ⟨rfl, rfl⟩
  | step hr hs ih =>
    intro T' β' h'
    cases h' with
    | step hr' hs' =>
      obtain ⟨rfl, rfl⟩ := ih hr'
      obtain ⟨rfl, rfl⟩ := Stp.det (hr.inv hm b0 f0).1 hs hs'
      exact ⟨rfl, rfl⟩
theorem Run.pre {m N many : Nat} {cost : Nat → Rat} {T0 : Bd} {β0 : Nat → Nat} {L : Nat} {T : Bd} {β : Nat → Nat} (h : Run m N many cost T0 β0 L T β) : ∀ k, k < L → ∃ T β r c, Run m N many cost T0 β0 k T β ∧ Stp m N many cost T β r c := by
  induction h with
  | nil => exact fun k hk => absurd hk (Nat.not_lt_zero k)
  | @step L T β r c hr hs ih =>
    intro k hk
    by_cases q : k = L
    · subst q
      exact ⟨T, β, r, c, hr, hs⟩
    · exact ih k (by omega)
/-- where no turn is left -/
theorem Run.det {m N many : Nat} {cost : Nat → Rat} {T0 : Bd} {β0 : Nat → Nat} (hm : many ≤ N) (b0 : Bas m N T0 β0) (f0 : Fea m N T0) {L L' : Nat} {T T' : Bd} {β β' : Nat → Nat} (h : Run m N many cost T0 β0 L T β) (h' : Run m N many cost T0 β0 L' T' β')
    (e : ∀ j, j < many → 0 ≤ gp m cost T β j) (e' : ∀ j, j < many → 0 ≤ gp m cost T' β' j) : T = T' ∧ β = β' := by
  have no : ∀ {L L' : Nat} {T T' : Bd} {β β' : Nat → Nat}, Run m N many cost T0 β0 L T β → Run m N many cost T0 β0 L' T' β' → (∀ j, j < many → 0 ≤ gp m cost T β j) → ¬ L < L' := fun h h' e q => by
    obtain ⟨T1, β1, r, c, h1, h2⟩ := h'.pre _ q
    obtain ⟨rfl, rfl⟩ := Run.one hm b0 f0 h h1
    have a := e c h2.hc
    have b := h2.neg
    grind
  have a := no h h' e
  have b := no h' h e'
  have : L = L' := by omega
  subst this
  exact Run.one hm b0 f0 h h'
/-- the driving out, as it goes -/
def dstep (many k : Nat) (S : Bd × (Nat → Nat)) : Bd × (Nat → Nat) := if many ≤ S.2 k then (match (List.range many).filter (fun c => !decide (S.1 k c = 0)) with
    | [] => S
    | c :: _ => (piv S.1 k c, pvb S.2 k c)) else S
def drv (many : Nat) : Nat → Bd × (Nat → Nat) → Bd × (Nat → Nat)
  | 0, S => S
  | k + 1, S => dstep many k (drv many k S)
end Lp
set_option maxHeartbeats 1000000
namespace Lp
/-! ## unknowns taken out one by one, in whole numbers -/
theorem top_of {α : Type} (f : α → Rat) : ∀ (l : List α), l ≠ [] → ∃ a ∈ l, ∀ b ∈ l, f b ≤ f a
  | [], h => absurd rfl h
  | [a], _ => ⟨a, .head _, fun b hb => by rw [List.mem_singleton.mp hb]; exact Rat.le_refl⟩
  | a :: c :: l, _ => by
    obtain ⟨m, hm, h⟩ := top_of f (c :: l) (by simp)
    by_cases q : f m ≤ f a
    · refine ⟨a, .head _, fun b hb => ?_⟩
      rcases List.mem_cons.mp hb with rfl | hb
      · exact Rat.le_refl
      · exact Rat.le_trans (h b hb) q
    · refine ⟨m, .tail _ hm, fun b hb => ?_⟩
      rcases List.mem_cons.mp hb with rfl | hb
      · grind
      · exact h b hb
/-- between what bounds from below and from above there is room -/
theorem between {α β : Type} (lo : List α) (up : List β) (f : α → Rat) (g : β → Rat) (sl : α → Prop) (su : β → Prop)
    (h : ∀ a ∈ lo, ∀ b ∈ up, f a ≤ g b ∧ (sl a ∨ su b → f a < g b)) : ∃ t : Rat, (∀ a ∈ lo, f a ≤ t ∧ (sl a → f a < t)) ∧ ∀ b ∈ up, t ≤ g b ∧ (su b → t < g b) := by
  by_cases e1 : lo = []
  · by_cases e2 : up = []
    · subst e1 e2
      exact ⟨0, nofun, nofun⟩
    · obtain ⟨b, hb, q⟩ := top_of (fun b => -g b) up e2
      subst e1
      refine ⟨g b - 1, nofun, fun c hc => ?_⟩
      have := q c hc
      exact ⟨by grind, fun _ => by grind⟩
  · obtain ⟨a, ha, q⟩ := top_of f lo e1
    by_cases e2 : up = []
    · subst e2
      refine ⟨f a + 1, fun c hc => ?_, nofun⟩
      have := q c hc
      exact ⟨by grind, fun _ => by grind⟩
    · obtain ⟨b, hb, q2⟩ := top_of (fun b => -g b) up e2
      have m := (h a ha b hb).1
      refine ⟨(f a + g b) / 2, fun c hc => ?_, fun c hc => ?_⟩
      · have k1 := q c hc
        have k2 := h c hc b hb
        exact ⟨by grind, fun s => by have := k2.2 (.inl s); grind⟩
      · have k1 := q2 c hc
        have k2 := h a ha c hc
        exact ⟨by grind, fun s => by have := k2.2 (.inr s); grind⟩
def cf (w : List Int) (i : Nat) : Int := w.getD i 0
def sw (n : Nat) (w : List Int) (z : Nat → Rat) : Rat := sm n fun i => (cf w i : Rat) * z i
/-- a wish is kept -/
def Kp (n : Nat) (w : List Int) (z : Nat → Rat) : Prop := sw n w z ≤ (cf w n : Rat) ∧ (0 < cf w (n + 1) → sw n w z < (cf w n : Rat))
/-- what two wishes say together -/
def jn (n i : Nat) (u v : List Int) : List Int := List.zipWith (fun a b => (0 - cf v i) * a + cf u i * b) (u.take (n + 1)) (v.take (n + 1)) ++ [max (cf u (n + 1)) (cf v (n + 1))]
theorem cf_jn {n i j : Nat} {u v : List Int} (hu : u.length = n + 2) (hv : v.length = n + 2) (hj : j ≤ n) : cf (jn n i u v) j = (0 - cf v i) * cf u j + cf u i * cf v j := by
  unfold cf jn
  rw [List.getD_eq_getElem?_getD, List.getElem?_append_left (by simp [hu, hv]; omega), List.getElem?_zipWith, List.getElem?_take_of_lt (by omega), List.getElem?_take_of_lt (by omega), List.getElem?_eq_getElem (show j < u.length by omega), List.getElem?_eq_getElem (show j < v.length by omega)]
  simp [cf, List.getD_eq_getElem?_getD, List.getElem?_eq_getElem (show j < u.length by omega), List.getElem?_eq_getElem (show j < v.length by omega)]
theorem cf_jn1 {n i : Nat} {u v : List Int} (hu : u.length = n + 2) (hv : v.length = n + 2) : cf (jn n i u v) (n + 1) = max (cf u (n + 1)) (cf v (n + 1)) := by
  unfold cf jn
  rw [List.getD_eq_getElem?_getD, List.getElem?_append_right (by simp [hu, hv])]
  simp [cf, hu, hv]
theorem len_jn {n i : Nat} {u v : List Int} (hu : u.length = n + 2) (hv : v.length = n + 2) : (jn n i u v).length = n + 2 := by
  unfold jn
  simp [hu, hv]
theorem sw_jn {n i : Nat} {u v : List Int} (hu : u.length = n + 2) (hv : v.length = n + 2) (z : Nat → Rat) : sw n (jn n i u v) z = ((0 - cf v i : Int) : Rat) * sw n u z + (cf u i : Rat) * sw n v z := by
  unfold sw
  rw [← sm_mul, ← sm_mul, ← sm_add]
  refine sm_congr fun j hj => ?_
  rw [cf_jn hu hv (by omega)]
  simp only [Rat.intCast_add, Rat.intCast_mul]
  grind
theorem ipos {a : Int} (h : 0 < a) : (0 : Rat) < (a : Rat) := Rat.intCast_lt_intCast.mpr h
/-- what both say follows from both -/
theorem kp_jn {n i : Nat} {u v : List Int} (hu : u.length = n + 2) (hv : v.length = n + 2) (h1 : 0 < cf u i) (h2 : cf v i < 0) {z : Nat → Rat} (ku : Kp n u z) (kv : Kp n v z) : Kp n (jn n i u v) z := by
  have a : (0 : Rat) < ((0 - cf v i : Int) : Rat) := ipos (by omega)
  have b := ipos h1
  have e : ((cf (jn n i u v) n : Int) : Rat) = ((0 - cf v i : Int) : Rat) * (cf u n : Rat) + (cf u i : Rat) * (cf v n : Rat) := by
    rw [cf_jn hu hv (Nat.le_refl _)]
    simp only [Rat.intCast_add, Rat.intCast_mul]
  unfold Kp
  rw [sw_jn hu hv, e, cf_jn1 hu hv]
  have l1 := Rat.mul_le_mul_of_nonneg_left ku.1 (Rat.le_of_lt a)
  have l2 := Rat.mul_le_mul_of_nonneg_left kv.1 (Rat.le_of_lt b)
  refine ⟨by grind, fun s => ?_⟩
  by_cases q : 0 < cf u (n + 1)
  · have := Rat.mul_lt_mul_of_pos_left (ku.2 q) a
    grind
  · have := Rat.mul_lt_mul_of_pos_left (kv.2 (by omega)) b
    grind
theorem sw_upd {n i : Nat} (hi : i < n) (w : List Int) (z : Nat → Rat) (t : Rat) : sw n w (fun j => if j = i then z i + t else z j) = sw n w z + (cf w i : Rat) * t := by
  have e : sw n w (fun j => if j = i then z i + t else z j) = sm n fun j => (cf w j : Rat) * z j + (if j = i then (cf w i : Rat) * t else 0) := sm_congr fun j _ => by
    by_cases q : j = i
    · subst q; simp; grind
    · simp [q]; grind
  rw [e, sm_add, sm_at n i (fun j => if j = i then (cf w i : Rat) * t else 0) hi fun j _ hne => by simp [hne]]
  simp [sw]
theorem pq_le {A B p q x y P R : Rat} (a : 0 < A) (b : 0 < B) (hP : P * A = -(p - y)) (hR : R * B = q - x) : (A * x + B * y ≤ A * q + B * p → P ≤ R) ∧ (A * x + B * y < A * q + B * p → P < R) := by
  have AB := Rat.mul_pos a b
  have e1 : A * B * P = B * y - B * p := by
    rw [show A * B * P = B * (P * A) by grind, hP]
    grind
  have e2 : A * B * R = A * q - A * x := by
    rw [show A * B * R = A * (R * B) by grind, hR]
    grind
  constructor
  · intro h
    refine Classical.byContradiction fun c => ?_
    have := Rat.mul_lt_mul_of_pos_left (show R < P by grind) AB
    rw [e1, e2] at this
    grind
  · intro h
    refine Classical.byContradiction fun c => ?_
    have := Rat.mul_le_mul_of_nonneg_left (show R ≤ P by grind) (Rat.le_of_lt AB)
    rw [e1, e2] at this
    grind
/-- THE STEP: an unknown is taken out -/
theorem fm_step {n i : Nat} (hi : i < n) {L L' : List (List Int)} (hL : ∀ w ∈ L, w.length = n + 2) (h1 : ∀ z, (∀ v ∈ L, Kp n v z) → ∀ w ∈ L', Kp n w z)
    (h2 : ∀ z, (∀ w ∈ L', Kp n w z) → (∀ w ∈ L, cf w i = 0 → Kp n w z) ∧ ∀ u ∈ L, ∀ v ∈ L, 0 < cf u i → cf v i < 0 → Kp n (jn n i u v) z) :
    (∃ z, ∀ w ∈ L, Kp n w z) ↔ ∃ z, ∀ w ∈ L', Kp n w z := by
  constructor
  · rintro ⟨z, hz⟩
    exact ⟨z, h1 z hz⟩
  · rintro ⟨z, hz⟩
    obtain ⟨k0, kj⟩ := h2 z hz
    obtain ⟨t, t1, t2⟩ := between (L.filter fun v => decide (cf v i < 0)) (L.filter fun u => decide (0 < cf u i)) (fun v => -(((cf v n : Int) : Rat) - sw n v z) / ((0 - cf v i : Int) : Rat)) (fun u => (((cf u n : Int) : Rat) - sw n u z) / ((cf u i : Int) : Rat))
      (fun v => 0 < cf v (n + 1)) (fun u => 0 < cf u (n + 1)) fun v hv u hu => by
        obtain ⟨hv, sv⟩ := List.mem_filter.mp hv
        obtain ⟨hu, su⟩ := List.mem_filter.mp hu
        have sv := of_decide_eq_true sv
        have su := of_decide_eq_true su
        have k := kj u hu v hv su sv
        have a : (0 : Rat) < ((0 - cf v i : Int) : Rat) := ipos (by omega)
        have b := ipos su
        have e : ((cf (jn n i u v) n : Int) : Rat) = ((0 - cf v i : Int) : Rat) * (cf u n : Rat) + (cf u i : Rat) * (cf v n : Rat) := by
          rw [cf_jn (hL u hu) (hL v hv) (Nat.le_refl _)]
          simp only [Rat.intCast_add, Rat.intCast_mul]
        unfold Kp at k
        rw [sw_jn (hL u hu) (hL v hv), e, cf_jn1 (hL u hu) (hL v hv)] at k
        generalize ((0 - cf v i : Int) : Rat) = A at *
        generalize ((cf u i : Int) : Rat) = B at *
        generalize ((cf v n : Int) : Rat) = p at *
        generalize ((cf u n : Int) : Rat) = q at *
        generalize sw n u z = x at *
        generalize sw n v z = y at *
        have hP : -(p - y) / A * A = -(p - y) := Rat.div_mul_cancel (by grind)
        have hQ : (q - x) / B * B = q - x := Rat.div_mul_cancel (by grind)
        have r := pq_le a b hP hQ
        exact ⟨r.1 k.1, fun s => r.2 (k.2 (by omega))⟩
    refine ⟨fun j => if j = i then z i + t else z j, fun w hw => ?_⟩
    unfold Kp
    rw [sw_upd hi]
    rcases Int.lt_trichotomy (cf w i) 0 with c | c | c
    · have q := t1 w (List.mem_filter.mpr ⟨hw, decide_eq_true c⟩)
      have a : (0 : Rat) < ((0 - cf w i : Int) : Rat) := ipos (by omega)
      have e : ((cf w i : Int) : Rat) = -((0 - cf w i : Int) : Rat) := by
        rw [← Rat.intCast_neg]
        congr 1
        omega
      rw [e]
      generalize ((0 - cf w i : Int) : Rat) = A at *
      have hP : -(((cf w n : Int) : Rat) - sw n w z) / A * A = -(((cf w n : Int) : Rat) - sw n w z) := Rat.div_mul_cancel (by grind)
      generalize -(((cf w n : Int) : Rat) - sw n w z) / A = P at *
      have l1 := Rat.mul_le_mul_of_nonneg_left q.1 (Rat.le_of_lt a)
      refine ⟨by grind, fun s => ?_⟩
      have := Rat.mul_lt_mul_of_pos_left (q.2 s) a
      grind
    · have k := k0 w hw c
      unfold Kp at k
      rw [c]
      simp only [Rat.intCast_zero, Rat.zero_mul, Rat.add_zero]
      exact k
    · have q := t2 w (List.mem_filter.mpr ⟨hw, decide_eq_true c⟩)
      have a := ipos c
      generalize ((cf w i : Int) : Rat) = A at *
      have hP : (((cf w n : Int) : Rat) - sw n w z) / A * A = ((cf w n : Int) : Rat) - sw n w z := Rat.div_mul_cancel (by grind)
      generalize (((cf w n : Int) : Rat) - sw n w z) / A = P at *
      have l1 := Rat.mul_le_mul_of_nonneg_left q.1 (Rat.le_of_lt a)
      refine ⟨by grind, fun s => ?_⟩
      have := Rat.mul_lt_mul_of_pos_left (q.2 s) a
      grind
/-! ## wishes without a common divisor -/
def gL (l : List Int) : Nat := l.foldl (fun g a => Nat.gcd g a.natAbs) 0
theorem gL_dvd_aux : ∀ (l : List Int) (g : Nat), l.foldl (fun g a => Nat.gcd g a.natAbs) g ∣ g ∧ ∀ a ∈ l, l.foldl (fun g a => Nat.gcd g a.natAbs) g ∣ a.natAbs
  | [], g => ⟨Nat.dvd_refl _, nofun⟩
  | b :: l, g => by
    have q := gL_dvd_aux l (Nat.gcd g b.natAbs)
    refine ⟨Nat.dvd_trans q.1 (Nat.gcd_dvd_left _ _), fun a ha => ?_⟩
    rcases List.mem_cons.mp ha with rfl | ha
    · exact Nat.dvd_trans q.1 (Nat.gcd_dvd_right _ _)
    · exact q.2 a ha
theorem gL_dvd {l : List Int} {a : Int} (h : a ∈ l) : ((gL l : Nat) : Int) ∣ a := Int.natAbs_dvd_natAbs.mp (by rw [Int.natAbs_natCast]; exact (gL_dvd_aux l 0).2 a h)
def low (n : Nat) (w : List Int) : List Int := if gL (w.take (n + 1)) < 2 then w else (w.take (n + 1)).map (fun a => a / ((gL (w.take (n + 1)) : Nat) : Int)) ++ w.drop (n + 1)
theorem len_low {n : Nat} {w : List Int} : (low n w).length = w.length := by
  unfold low
  split
  · rfl
  · simp only [List.length_append, List.length_map, List.length_take, List.length_drop]
    omega
theorem cf_low1 {n : Nat} {w : List Int} (h : w.length = n + 2) : cf (low n w) (n + 1) = cf w (n + 1) := by
  unfold low
  split
  · rfl
  · unfold cf
    rw [List.getD_eq_getElem?_getD, List.getElem?_append_right (by simp; omega)]
    simp [h, List.getD_eq_getElem?_getD]
theorem cf_mem {n j : Nat} {w : List Int} (h : w.length = n + 2) (hj : j ≤ n) : cf w j ∈ w.take (n + 1) := by
  unfold cf
  rw [List.getD_eq_getElem?_getD, List.getElem?_eq_getElem (show j < w.length by omega)]
  exact List.mem_iff_getElem.mpr ⟨j, by simp; omega, by simp⟩
/-- a number above 0 by which the lowered wish is multiplied -/
theorem low_by {n : Nat} {w : List Int} (h : w.length = n + 2) : ∃ g : Nat, 0 < g ∧ (∀ j, j ≤ n → cf w j = (g : Int) * cf (low n w) j) ∧ ((∀ i, i < n → cf w i = 0) → (cf (low n w) n).natAbs ≤ 1) := by
  have zero : (∀ i, i < n → cf w i = 0) → gL (w.take (n + 1)) = (cf w n).natAbs := fun hz => by
    have e : w.take (n + 1) = List.replicate n 0 ++ [cf w n] := by
      apply List.ext_getElem
      · simp; omega
      · intro j h1 h2
        have hj : j < n + 1 := by simp at h1; omega
        rw [List.getElem_take]
        by_cases q : j < n
        · rw [List.getElem_append_left (by simpa using q)]
          have := hz j q
          unfold cf at this
          rw [List.getD_eq_getElem?_getD, List.getElem?_eq_getElem (show j < w.length by omega)] at this
          simpa using this
        · have : j = n := by omega
          subst this
          rw [List.getElem_append_right (by simp)]
          unfold cf
          simp [List.getD_eq_getElem?_getD, List.getElem?_eq_getElem (show j < w.length by omega)]
    rw [e]
    unfold gL
    rw [List.foldl_append]
    have z : ∀ k, (List.replicate k (0 : Int)).foldl (fun g a => Nat.gcd g a.natAbs) 0 = 0 := fun k => by
      induction k with
      | zero => rfl
      | succ k ih => rw [List.replicate_succ, List.foldl_cons]; simpa using ih
    rw [z]
    simp
  by_cases q : gL (w.take (n + 1)) < 2
  · have e : low n w = w := by unfold low; rw [if_pos q]
    refine ⟨1, by omega, fun j _ => by rw [e]; simp, fun hz => ?_⟩
    rw [e, ← zero hz]
    omega
  · have e : ∀ j, j ≤ n → cf (low n w) j = cf w j / ((gL (w.take (n + 1)) : Nat) : Int) := fun j hj => by
      unfold low
      rw [if_neg q]
      unfold cf
      rw [List.getD_eq_getElem?_getD, List.getElem?_append_left (by simp; omega), List.getElem?_map, List.getElem?_take_of_lt (by omega), List.getElem?_eq_getElem (show j < w.length by omega)]
      simp [List.getD_eq_getElem?_getD, List.getElem?_eq_getElem (show j < w.length by omega)]
    refine ⟨gL (w.take (n + 1)), by omega, fun j hj => ?_, fun hz => ?_⟩
    · rw [e j hj]
      exact (Int.mul_ediv_cancel' (gL_dvd (cf_mem h hj))).symm
    · rw [e n (Nat.le_refl _), zero hz]
      have := zero hz
      rcases Int.natAbs_eq (cf w n) with q2 | q2
      · rw [q2]
        simp only [Int.natAbs_natCast]
        rw [Int.ediv_self (by omega)]
        decide
      · rw [q2]
        simp only [Int.natAbs_neg, Int.natAbs_natCast]
        rw [Int.neg_ediv_of_dvd (Int.dvd_refl _), Int.ediv_self (by omega)]
        decide
theorem cf_low0 {n i : Nat} {w : List Int} (h : w.length = n + 2) (hi : i ≤ n) : cf (low n w) i = 0 ↔ cf w i = 0 := by
  obtain ⟨g, hg, e, -⟩ := low_by h
  rw [e i hi]
  constructor
  · intro q
    rw [q]
    simp
  · intro q
    rcases Int.mul_eq_zero.mp q with q | q
    · omega
    · exact q
theorem cf_low_le {n j : Nat} {w : List Int} (h : w.length = n + 2) (hj : j ≤ n) : (cf (low n w) j).natAbs ≤ (cf w j).natAbs := by
  obtain ⟨g, hg, e, -⟩ := low_by h
  rw [e j hj, Int.natAbs_mul, Int.natAbs_natCast]
  exact Nat.le_mul_of_pos_left _ hg
theorem kp_low {n : Nat} {w : List Int} (h : w.length = n + 2) (z : Nat → Rat) : Kp n (low n w) z ↔ Kp n w z := by
  obtain ⟨g, hg, e, -⟩ := low_by h
  have e1 : sw n w z = ((g : Int) : Rat) * sw n (low n w) z := by
    unfold sw
    rw [← sm_mul]
    refine sm_congr fun j hj => ?_
    rw [e j (by omega), Rat.intCast_mul]
    grind
  have e2 : ((cf w n : Int) : Rat) = ((g : Int) : Rat) * ((cf (low n w) n : Int) : Rat) := by
    rw [e n (Nat.le_refl _), Rat.intCast_mul]
  have gp : (0 : Rat) < ((g : Int) : Rat) := ipos (by omega)
  unfold Kp
  rw [cf_low1 h, e1, e2]
  generalize ((g : Int) : Rat) = G at *
  generalize sw n (low n w) z = x
  generalize ((cf (low n w) n : Int) : Rat) = y
  have a1 : x ≤ y ↔ G * x ≤ G * y := ⟨fun q => Rat.mul_le_mul_of_nonneg_left q (Rat.le_of_lt gp), fun q => Classical.byContradiction fun c => by
    have := Rat.mul_lt_mul_of_pos_left (show y < x by grind) gp
    grind⟩
  have a2 : x < y ↔ G * x < G * y := ⟨fun q => Rat.mul_lt_mul_of_pos_left q gp, fun q => Classical.byContradiction fun c => by
    have := Rat.mul_le_mul_of_nonneg_left (show y ≤ x by grind) (Rat.le_of_lt gp)
    grind⟩
  rw [a1, a2]
/-! ## all unknowns -/
def stM (n i : Nat) (L : List (List Int)) : List (List Int) := L.filter (fun w => decide (cf w i = 0)) ++ (L.filter fun w => decide (0 < cf w i)).flatMap fun u => (L.filter fun w => decide (cf w i < 0)).map fun v => low n (jn n i u v)
def runF (S : List (List Int) → List (List Int)) (n : Nat) (ws : List (List Int)) : Nat → List (List Int)
  | 0 => S (ws.map (low n))
  | k + 1 => S (stM n k (runF S n ws k))
theorem mem_stM {n i : Nat} {L : List (List Int)} {w : List Int} : w ∈ stM n i L ↔ (w ∈ L ∧ cf w i = 0) ∨ ∃ u ∈ L, ∃ v ∈ L, 0 < cf u i ∧ cf v i < 0 ∧ w = low n (jn n i u v) := by
  unfold stM
  rw [List.mem_append, List.mem_filter, List.mem_flatMap, decide_eq_true_eq]
  refine or_congr Iff.rfl ?_
  constructor
  · rintro ⟨u, hu, hw⟩
    obtain ⟨v, hv, rfl⟩ := List.mem_map.mp hw
    obtain ⟨u1, u2⟩ := List.mem_filter.mp hu
    obtain ⟨v1, v2⟩ := List.mem_filter.mp hv
    exact ⟨u, u1, v, v1, of_decide_eq_true u2, of_decide_eq_true v2, rfl⟩
  · rintro ⟨u, hu, v, hv, h1, h2, rfl⟩
    exact ⟨u, List.mem_filter.mpr ⟨hu, decide_eq_true h1⟩, List.mem_map.mpr ⟨v, List.mem_filter.mpr ⟨hv, decide_eq_true h2⟩, rfl⟩⟩
def Mb (M : Nat) : Nat → Nat
  | 0 => M
  | k + 1 => 2 * (Mb M k * Mb M k)
/-- what is known of the wishes that are left -/
structure Lf (n M k : Nat) (w : List Int) : Prop where
  len : w.length = n + 2
  z : ∀ i, i < k → cf w i = 0
  low : ∃ v : List Int, v.length = n + 2 ∧ w = low n v
  fl : 0 ≤ cf w (n + 1) ∧ cf w (n + 1) ≤ 1
  b : ∀ j, j ≤ n → (cf w j).natAbs ≤ Mb M k
structure W0 (n M : Nat) (w : List Int) : Prop where
  len : w.length = n + 2
  fl : 0 ≤ cf w (n + 1) ∧ cf w (n + 1) ≤ 1
  b : ∀ j, j ≤ n → (cf w j).natAbs ≤ M
theorem Mb_pos {M : Nat} (h : 1 ≤ M) : ∀ k, 1 ≤ Mb M k
  | 0 => h
  | k + 1 => by
    have := Mb_pos h k
    have := Nat.mul_le_mul this this
    show 1 ≤ 2 * (Mb M k * Mb M k)
    omega
theorem Mb_le {M : Nat} (h : 1 ≤ M) (k : Nat) : Mb M k ≤ Mb M (k + 1) := by
  have := Nat.le_mul_of_pos_right (Mb M k) (show 0 < Mb M k from Mb_pos h k)
  show Mb M k ≤ 2 * (Mb M k * Mb M k)
  omega
section
variable {S : List (List Int) → List (List Int)} (hS : ∀ l w, w ∈ S l ↔ w ∈ l) {n M : Nat} {ws : List (List Int)} (hM : 1 ≤ M) (hw : ∀ w ∈ ws, W0 n M w)
include hS hM hw
theorem runF_ok : ∀ k, k ≤ n → ∀ w ∈ runF S n ws k, Lf n M k w
  | 0, _, w, h => by
    obtain ⟨v, hv, rfl⟩ := List.mem_map.mp ((hS _ _).mp h)
    have q := hw v hv
    exact ⟨len_low.trans q.len, nofun, ⟨v, q.len, rfl⟩, by rw [cf_low1 q.len]; exact q.fl, fun j hj => Nat.le_trans (cf_low_le q.len hj) (q.b j hj)⟩
  | k + 1, hk, w, h => by
    have ih := runF_ok k (by omega)
    rcases mem_stM.mp ((hS _ _).mp h) with ⟨hm, hz⟩ | ⟨u, hu, v, hv, h1, h2, rfl⟩
    · have q := ih w hm
      refine ⟨q.len, fun i hi => ?_, q.low, q.fl, fun j hj => Nat.le_trans (q.b j hj) (Mb_le hM k)⟩
      by_cases e : i = k
      · rw [e]; exact hz
      · exact q.z i (by omega)
    · have qu := ih u hu
      have qv := ih v hv
      have ln := len_jn (i := k) qu.len qv.len
      refine ⟨len_low.trans ln, fun i hi => ?_, ⟨_, ln, rfl⟩, ?_, fun j hj => ?_⟩
      · rw [cf_low0 ln (by omega), cf_jn qu.len qv.len (by omega)]
        by_cases e : i = k
        · subst e
          rw [Int.sub_mul, Int.mul_comm (cf v i)]
          omega
        · rw [qu.z i (by omega), qv.z i (by omega)]
          simp
      · rw [cf_low1 ln, cf_jn1 qu.len qv.len]
        have := qu.fl
        have := qv.fl
        omega
      · refine Nat.le_trans (cf_low_le ln hj) ?_
        rw [cf_jn qu.len qv.len hj]
        have a1 := Nat.mul_le_mul (qv.b k (by omega)) (qu.b j hj)
        have a2 := Nat.mul_le_mul (qu.b k (by omega)) (qv.b j hj)
        have t := Int.natAbs_add_le ((0 - cf v k) * cf u j) (cf u k * cf v j)
        rw [Int.natAbs_mul, Int.natAbs_mul] at t
        have e : (0 - cf v k).natAbs = (cf v k).natAbs := by omega
        rw [e] at t
        show _ ≤ 2 * (Mb M k * Mb M k)
        omega
theorem runF_sat : ∀ k, k ≤ n → ((∃ z, ∀ w ∈ ws, Kp n w z) ↔ ∃ z, ∀ w ∈ runF S n ws k, Kp n w z)
  | 0, _ => by
    refine exists_congr fun z => ?_
    constructor
    · intro h w hm
      obtain ⟨v, hv, rfl⟩ := List.mem_map.mp ((hS _ _).mp hm)
      exact (kp_low (hw v hv).len z).mpr (h v hv)
    · intro h v hv
      exact (kp_low (hw v hv).len z).mp (h _ ((hS _ _).mpr (List.mem_map.mpr ⟨v, hv, rfl⟩)))
  | k + 1, hk => by
    rw [runF_sat k (by omega)]
    have ok := runF_ok hS hM hw k (by omega)
    refine fm_step (i := k) (by omega) (fun w hm => (ok w hm).len) (fun z hz w hm => ?_) fun z hz => ⟨fun w hm h0 => hz w ((hS _ _).mpr (mem_stM.mpr (.inl ⟨hm, h0⟩))), fun u hu v hv h1 h2 => ?_⟩
    · rcases mem_stM.mp ((hS _ _).mp hm) with ⟨hm, -⟩ | ⟨u, hu, v, hv, h1, h2, rfl⟩
      · exact hz w hm
      · exact (kp_low (len_jn (ok u hu).len (ok v hv).len) z).mpr (kp_jn (ok u hu).len (ok v hv).len h1 h2 (hz u hu) (hz v hv))
    · exact (kp_low (len_jn (ok u hu).len (ok v hv).len) z).mp (hz _ ((hS _ _).mpr (mem_stM.mpr (.inr ⟨u, hu, v, hv, h1, h2, rfl⟩))))
/-- THE END: void exactly if some wish says that what is not above is below -/
theorem runF_void : (runF S n ws n).any (fun w => decide (cf w n < cf w (n + 1))) = true ↔ ¬ ∃ z, ∀ w ∈ ws, Kp n w z := by
  rw [runF_sat hS hM hw n (Nat.le_refl _)]
  have ok := runF_ok hS hM hw n (Nat.le_refl _)
  have kp : ∀ w ∈ runF S n ws n, ∀ z, Kp n w z ↔ ¬ cf w n < cf w (n + 1) := fun w hm z => by
    have q := ok w hm
    have e : sw n w z = 0 := sm_none n _ fun i hi => by rw [q.z i hi]; simp
    unfold Kp
    rw [e]
    have c1 : (0 : Rat) ≤ (cf w n : Rat) ↔ 0 ≤ cf w n := by
      rw [← Rat.intCast_zero]
      exact Rat.intCast_le_intCast
    have c2 : (0 : Rat) < (cf w n : Rat) ↔ 0 < cf w n := by
      rw [← Rat.intCast_zero]
      exact Rat.intCast_lt_intCast
    rw [c1, c2]
    have := q.fl
    omega
  rw [List.any_eq_true]
  constructor
  · rintro ⟨w, hm, h⟩ ⟨z, hz⟩
    exact (kp w hm z).mp (hz w hm) (of_decide_eq_true h)
  · intro h
    refine Classical.byContradiction fun c => h ⟨fun _ => 0, fun w hm => (kp w hm _).mpr fun q => c ⟨w, hm, decide_eq_true q⟩⟩
omit hS hM hw in
theorem len_stM (n i : Nat) (L : List (List Int)) : ∃ z p q : Nat, z + p + q = L.length ∧ (stM n i L).length = z + p * q := by
  refine ⟨(L.filter fun w => decide (cf w i = 0)).length, (L.filter fun w => decide (0 < cf w i)).length, (L.filter fun w => decide (cf w i < 0)).length, ?_, ?_⟩
  · induction L with
    | nil => rfl
    | cons w L ih =>
      rcases Int.lt_trichotomy (cf w i) 0 with c | c | c
      · have c1 : ¬ cf w i = 0 := by omega
        have c2 : ¬ 0 < cf w i := by omega
        simp [List.filter_cons, c, c1, c2]
        omega
      · have c1 : ¬ cf w i < 0 := by omega
        have c2 : ¬ 0 < cf w i := by omega
        simp [List.filter_cons, c, c1, c2]
        omega
      · have c1 : ¬ cf w i = 0 := by omega
        have c2 : ¬ cf w i < 0 := by omega
        simp [List.filter_cons, c, c1, c2]
        omega
  · unfold stM
    rw [List.length_append]
    congr 1
    generalize (L.filter fun w => decide (0 < cf w i)) = A
    induction A with
    | nil => simp
    | cons u A ih => rw [List.flatMap_cons, List.length_append, ih, List.length_map, List.length_cons, Nat.succ_mul]; omega
/-- with no unknown left there are few -/
theorem last_few : ∀ w ∈ runF S n ws n, ∃ b s : Int, (b = -1 ∨ b = 0 ∨ b = 1) ∧ (s = 0 ∨ s = 1) ∧ w = List.replicate n 0 ++ [b, s] := fun w hm => by
  have q := runF_ok hS hM hw n (Nat.le_refl _) w hm
  obtain ⟨v, hv, e⟩ := q.low
  refine ⟨cf w n, cf w (n + 1), ?_, ?_, ?_⟩
  · obtain ⟨g, hg, e1, e2⟩ := low_by hv
    have := e2 fun i hi => by
      rw [e1 i (by omega), ← e, q.z i hi]
      simp
    rw [← e] at this
    omega
  · have := q.fl
    omega
  · apply List.ext_getElem
    · simp [q.len]
    · intro j h1 h2
      have hl := q.len
      have ej : w[j] = cf w j := by unfold cf; simp [List.getD_eq_getElem?_getD, List.getElem?_eq_getElem h1]
      rw [ej]
      by_cases c : j < n
      · rw [List.getElem_append_left (by simpa using c), q.z j c]
        simp
      · rw [List.getElem_append_right (by simpa using c)]
        have : j = n ∨ j = n + 1 := by omega
        rcases this with rfl | rfl
        · simp
        · simp
end
end Lp
set_option maxHeartbeats 400000
namespace Lp
/-- sums over a board's rows, all over one denominator -/
theorem Sz.common {n m N : Nat} {T : Bd} (h : Sz n m N T) (hn : 1 ≤ n) (c : Nat → Rat) (hc : ∀ k, c k = 0 ∨ c k = 1) : ∀ k, k ≤ m → ∃ (D : Nat) (u : Nat → Int), 0 < D ∧ D ≤ n ^ k ∧ ∀ j, j ≤ N → (u j).natAbs ≤ k * n ^ k ∧ sm k (fun i => c i * T i j) = (u j : Rat) / (D : Rat)
  | 0, _ => ⟨1, fun _ => 0, by omega, by simp, fun j _ => ⟨by simp, by simp [sm]; grind⟩⟩
  | k + 1, hk => by
    obtain ⟨D, u, d1, d2, d3⟩ := Sz.common h hn c hc k (by omega)
    obtain ⟨d, v, e1, e2, e3⟩ := h k (by omega)
    have pD := cast_pos d1
    have pd := cast_pos e1
    have key : ∀ (s : Int), (s = 0 ∨ s = 1) → c k = (s : Rat) → ∃ (D' : Nat) (u' : Nat → Int), 0 < D' ∧ D' ≤ n ^ (k + 1) ∧ ∀ j, j ≤ N → (u' j).natAbs ≤ (k + 1) * n ^ (k + 1) ∧ sm (k + 1) (fun i => c i * T i j) = (u' j : Rat) / (D' : Rat) := fun s hs es => by
      refine ⟨D * d, fun j => u j * d + s * v j * D, Nat.mul_pos d1 e1, ?_, fun j hj => ⟨?_, ?_⟩⟩
      · rw [Nat.pow_succ]
        exact Nat.mul_le_mul d2 e2
      · have a1 := (d3 j hj).1
        have a2 := (e3 j hj).1
        have t := Int.natAbs_add_le (u j * d) (s * v j * D)
        rw [Int.natAbs_mul, Int.natAbs_mul, Int.natAbs_mul, Int.natAbs_natCast, Int.natAbs_natCast] at t
        have b1 := Nat.mul_le_mul a1 e2
        have s1 : s.natAbs ≤ 1 := by rcases hs with rfl | rfl <;> decide
        have b2 := Nat.mul_le_mul (Nat.mul_le_mul s1 a2) d2
        rw [Nat.pow_succ, Nat.succ_mul]
        have e : k * n ^ k * n = k * (n ^ k * n) := by rw [Nat.mul_assoc]
        have e' : 1 * n * n ^ k = n ^ k * n := by rw [Nat.one_mul, Nat.mul_comm]
        rw [e] at b1
        rw [e'] at b2
        exact Nat.le_trans t (Nat.add_le_add b1 b2)
      · simp only [sm]
        rw [(d3 j hj).2, (e3 j hj).2, es]
        have x1 : (((u j * d + s * v j * D : Int)) : Rat) = (u j : Rat) * (d : Rat) + (s : Rat) * (v j : Rat) * (D : Rat) := by
          rw [Rat.intCast_add, Rat.intCast_mul, Rat.intCast_mul, Rat.intCast_mul, nat_int, nat_int]
        have x2 : (((D * d : Nat)) : Rat) = (D : Rat) * (d : Rat) := by
          rw [← nat_int, ← nat_int D, ← nat_int d, ← Rat.intCast_mul]
          simp
        rw [x1, x2]
        have n1 : (D : Rat) ≠ 0 := fun z => by rw [z] at pD; exact absurd pD (by decide)
        have n2 : (d : Rat) ≠ 0 := fun z => by rw [z] at pd; exact absurd pd (by decide)
        have n3 : (D : Rat) * (d : Rat) ≠ 0 := fun z => by rcases Rat.mul_eq_zero.mp z with h | h <;> contradiction
        grind
    rcases hc k with e | e
    · exact key 0 (.inl rfl) (by rw [e]; rfl)
    · exact key 1 (.inr rfl) (by rw [e]; rfl)
end Lp
set_option maxHeartbeats 400000
set_option exponentiation.threshold 9000
namespace K03
open PySem PySem.Spec L2 Rf
/-! ### the predicates -/
theorem whole_f (n : Nat) (s : Sto) (d : D) (h : pl 10000 (BG : Int) d) : Fx (n + 1) 11 [d] s = .ok (.bl (isWh d)) s := by
  rw [c11]
  simp [runB, m_is_whole, isi_pl h]
  cases d <;> simp [tyP, Ty.sub, isWh]
theorem lwhole_f (n : Nat) (s : Sto) (d : D) (h : pl 10000 (BG : Int) d) : Fx (n + 1) 57 [d] s = .ok (.bl (isWh d)) s := by
  rw [c57]
  simp [runB, m_law_is_whole, isi_pl h]
  cases d <;> simp [tyP, Ty.sub, isWh]
theorem between_f (n : Nat) (s : Sto) (d : D) (h : pl 10000 (BG : Int) d) (lo hi : Int) : Fx (n + 2) 12 [d, .int lo, .int hi] s = .ok (.bl (isBt lo hi d)) s := by
  rw [c12]
  simp [runB, m_is_between, whole_f n s d h]
  cases d with
  | int i =>
    simp [isWh, isBt]
    by_cases h1 : lo ≤ i <;> simp [h1]
  | _ => simp [isWh, isBt]
theorem wholes_f (n : Nat) (s : Sto) (d : D) (h : pl 10000 (BG : Int) d) (m : Int) : Fx (n + 2) 13 [d, .int m] s = .ok (.bl (match d with | .tup ds => decide ((ds.length : Int) = m) && ds.all isWh | _ => false)) s := by
  rw [c13]
  simp [runB, m_are_wholes, isi_pl h]
  cases d with
  | tup ds =>
    have hp := pl_tup.mp h
    have e : lcL [2] (gNm 2) mYes (mCall (Fx (n + 1)) 11 [.at 0] (mCons (mVar 2) mNil)) none ds [some (.tup ds), some (.int m), none] ds s [] = .ok ([] ++ ds.map fun d => .bl (isWh d)) s :=
      lc_map ds [] fun d hd => ⟨_, rfl, by simp [whole_f n s d (hp.2 d hd)]⟩
    simp [tyP, Ty.sub]
    by_cases h1 : (ds.length : Int) = m
    · simp [h1, e, o_all]
    · simp [h1]
  | _ => simp [tyP, Ty.sub]
theorem ratio_f (n : Nat) (s : Sto) (d : D) (h : pl 10000 (BG : Int) d) : Fx (n + 3) 15 [d] s = .ok (.bl (isRat d)) s := by
  rw [c15]
  simp [runB, m_is_ratio, wholes_f n s d h]
  cases d with
  | tup ds =>
    match ds with
    | [] => simp [isRat]
    | [_] => simp [isRat]
    | _ :: _ :: _ :: r =>
      have hl : ¬ ((r.length : Int) + 1 + 1 + 1 = 2) := by omega
      simp [isRat, hl]
    | [a, b] =>
      have dv : ∀ i j : Int, Fx (n + 2) 14 [.int i, .int j] s = .ok (.int ((Nat.gcd i.natAbs j.natAbs : Nat) : Int)) s := fun i j => by
        rw [c14]
        simp [runB, m_divisor_of]
      cases a <;> cases b <;> simp [isRat, isWh]
      rename_i i j
      simp [dv]
      by_cases h1 : 0 < j
      · simp [h1]
        omega
      · simp [h1]
  | _ => simp [isRat]
theorem rowby_f (n : Nat) (s : Sto) (d : D) (h : pl 10000 (BG : Int) d) (m : Int) : Fx (n + 4) 16 [d, .int m] s = .ok (.bl (isRow m d)) s := by
  rw [c16]
  simp [runB, m_is_row_by, isi_pl h]
  cases d with
  | tup ds =>
    have hp := pl_tup.mp h
    have e : lcL [2] (gNm 2) mYes (mCall (Fx (n + 3)) 15 [.at 0] (mCons (mVar 2) mNil)) none ds [some (.tup ds), some (.int m), none] ds s [] = .ok ([] ++ ds.map fun d => .bl (isRat d)) s :=
      lc_map ds [] fun d hd => ⟨_, rfl, by simp [ratio_f n s d (hp.2 d hd)]⟩
    simp [tyP, Ty.sub, isRow]
    by_cases h1 : (ds.length : Int) = m
    · simp [h1, e, o_all]
    · simp [h1]
  | _ => simp [tyP, Ty.sub, isRow]
theorem wish_f (n : Nat) (s : Sto) (d : D) (h : pl 10000 (BG : Int) d) (m : Int) : Fx (n + 5) 17 [d, .int m] s = .ok (.bl (isWish m d)) s := by
  rw [c17]
  simp [runB, m_is_wish, isi_pl h]
  cases d with
  | tup ds =>
    have hp := pl_tup.mp h
    simp [tyP, Ty.sub]
    match ds, hp with
    | [], _ => simp [isWish]
    | [_], _ => simp [isWish]
    | _ :: _ :: _ :: r, _ =>
      have hl : ¬ ((r.length : Int) + 1 + 1 + 1 = 2) := by omega
      simp [isWish, hl]
    | [a, b], hp =>
      have ha := hp.2 a (.head _)
      have hb := hp.2 b (.tail _ (.head _))
      simp [isWish, rowby_f n s a ha m, ratio_f (n + 1) s b hb]
      cases isRow m a <;> simp
  | _ => simp [tyP, Ty.sub, isWish]
theorem lotby_f (n : Nat) (s : Sto) (d : D) (h : pl 10000 (BG : Int) d) (m : Int) : Fx (n + 6) 18 [d, .int m] s = .ok (.bl (isLot m d)) s := by
  rw [c18]
  simp [runB, m_is_lot_by, isi_pl h]
  cases d with
  | tup ds =>
    have hp := pl_tup.mp h
    simp [tyP, Ty.sub]
    match ds, hp with
    | [], _ => simp [isLot]
    | [_], _ => simp [isLot]
    | _ :: _ :: _ :: r, _ =>
      have hl : ¬ ((r.length : Int) + 1 + 1 + 1 = 2) := by omega
      simp [isLot, hl]
    | [a, b], hp =>
      have ha := hp.2 a (.head _)
      have hb := hp.2 b (.tail _ (.head _))
      simp [between_f (n + 3) s a ha, isi_pl hb]
      cases a with
      | int i =>
        by_cases h1 : 1 ≤ i ∧ i ≤ 12
        · cases b with
          | tup ws =>
            have hq := pl_tup.mp hb
            have e : lcL [2] (gNm 2) mYes (mCall (Fx (n + 5)) 17 [.at 0, .at 1] (mCons (mVar 2) (mCons (mOp2 opIx (mVar 0) (mCst (.int 0))) mNil))) none ws [some (.tup [.int i, .tup ws]), some (.int m), none] ws s [] = .ok ([] ++ ws.map fun d => .bl (isWish i d)) s :=
              lc_map ws [] fun d hd => ⟨_, rfl, by simp [wish_f n s d (hq.2 d hd)]⟩
            simp [isBt, isLot, h1.1, h1.2, tyP, Ty.sub]
            by_cases h2 : (ws.length : Int) ≤ m
            · have h3 : ¬ m < (ws.length : Int) := by omega
              simp [h2, h3, e, o_all]
            · have h3 : m < (ws.length : Int) := by omega
              simp [h2, h3]
          | _ => simp [isBt, isLot, h1.1, h1.2, isi_pl hb, tyP, Ty.sub]
        · have h2 : isBt 1 12 (.int i) = false := by
            simp only [isBt]
            by_cases q : 1 ≤ i
            · simp [q]; omega
            · simp [q]
          simp [h2]
          cases b <;> simp [isLot]
          intro q1 q2
          exact absurd ⟨q1, q2⟩ h1
      | _ => simp [isBt, isLot]
  | _ => simp [tyP, Ty.sub, isLot]
/-! ### the law's own -/
theorem frac_f (n : Nat) (s : Sto) (a b : Int) (ha : a.natAbs ≤ BG) (hb : 0 < b ∧ b.natAbs ≤ BG) : Fx (n + 1) 0 [.int a, .int b] s = .ok (.tup [.int (a / (Nat.gcd a.natAbs b.natAbs : Nat)), .int (b / (Nat.gcd a.natAbs b.natAbs : Nat))]) s := by
  rw [c0]
  have hg : 0 < Nat.gcd a.natAbs b.natAbs := Nat.gcd_pos_of_pos_right _ (by omega)
  have hg2 : Nat.gcd a.natAbs b.natAbs ≤ b.natAbs := Nat.gcd_le_right _ (by omega)
  have hk : b.natAbs < 2 ^ 8001 := bg_lt hb.2
  have l := gcd_loop (c := mTest (mOp2 (opCmp fun i j => decide (j < i)) (mVar 3) (mCst (.int 0)))) (m := mPar 2 3 (mCons (mVar 3) (mCons (mOp2 opMod (mOpN opInt (mCons (mVar 2) mNil)) (mVar 3)) mNil)))
    (env := fun x y => [some (.int a), some (.int b), some (.int (x : Nat)), some (.int (y : Nat))]) (st := s) (fun x y => by simp) (fun x y h => by simp (disch := omega)) 8001 1000000 a.natAbs b.natAbs hk (by omega)
  have e1 : (if a < 0 then -a else a) = ((a.natAbs : Nat) : Int) := by split <;> omega
  have e2 : (if b < 0 then -b else b) = ((b.natAbs : Nat) : Int) := by split <;> omega
  have d1 : opDiv (.int a) (.int ((Nat.gcd a.natAbs b.natAbs : Nat) : Int)) s = .ok (.int (a / ((Nat.gcd a.natAbs b.natAbs : Nat) : Int))) s := o_divW _ _ (by omega) (by omega)
  have d2 : opDiv (.int b) (.int ((Nat.gcd a.natAbs b.natAbs : Nat) : Int)) s = .ok (.int (b / ((Nat.gcd a.natAbs b.natAbs : Nat) : Int))) s := o_divW _ _ (by omega) (by omega)
  simp (disch := first | omega | (simp; done) | (simp; omega)) [runB, m_law_frac, e1, e2, l, hb.1, d1, d2]
theorem lfrac_f (n : Nat) (s : Sto) (d : D) (h : pl 10000 (BG : Int) d) : Fx (n + 2) 58 [d] s = .ok (.bl (isRat d)) s := by
  rw [c58]
  simp [runB, m_law_is_frac, isi_pl h]
  cases d with
  | tup ds =>
    have hp := pl_tup.mp h
    simp [tyP, Ty.sub]
    match ds, hp with
    | [], _ => simp [isRat]
    | [_], _ => simp [isRat]
    | _ :: _ :: _ :: r, _ =>
      have hl : ¬ ((r.length : Int) + 1 + 1 + 1 = 2) := by omega
      simp [isRat, hl]
    | [a, b], hp =>
      have ha := hp.2 a (.head _)
      have hb := hp.2 b (.tail _ (.head _))
      simp [lwhole_f n s a ha, lwhole_f n s b hb]
      cases a <;> cases b <;> simp [isRat, isWh]
      rename_i i j
      by_cases h1 : 0 < j
      · have q1 := pl_int.mp ha
        have q2 := pl_int.mp hb
        simp [h1, frac_f n s i j (by omega) ⟨h1, by omega⟩, o_eq2]
        have hg : 0 < Nat.gcd i.natAbs j.natAbs := Nat.gcd_pos_of_pos_right _ (by omega)
        by_cases h2 : Nat.gcd i.natAbs j.natAbs = 1
        · simp [h2]
        · simp [h2]
          intro _ h3
          have h4 : j / ((Nat.gcd i.natAbs j.natAbs : Nat) : Int) < j := Int.ediv_lt_self_of_pos_of_ne_one h1 (by omega)
          omega
      · simp [h1]
  | _ => simp [tyP, Ty.sub, isRat]
theorem lrow_f (n : Nat) (s : Sto) (d : D) (h : pl 10000 (BG : Int) d) (m : Int) : Fx (n + 3) 59 [d, .int m] s = .ok (.bl (isRow m d)) s := by
  rw [c59]
  simp [runB, m_law_is_row, isi_pl h]
  cases d with
  | tup ds =>
    have hp := pl_tup.mp h
    have e : lcL [2] (gNm 2) mYes (mCall (Fx (n + 2)) 58 [.at 0] (mCons (mVar 2) mNil)) none ds [some (.tup ds), some (.int m), none] ds s [] = .ok ([] ++ ds.map fun d => .bl (isRat d)) s :=
      lc_map ds [] fun d hd => ⟨_, rfl, by simp [lfrac_f n s d (hp.2 d hd)]⟩
    simp [tyP, Ty.sub, isRow]
    by_cases h1 : (ds.length : Int) = m
    · simp [h1, e, o_all]
    · simp [h1]
  | _ => simp [tyP, Ty.sub, isRow]
end K03
set_option maxHeartbeats 400000
namespace K03
open PySem PySem.Spec L2 Rf
/-! ### what is drawn -/
theorem draw_f (n : Nat) : PullF (Fx (n + 1)) 1 := fun s u k0 t U hk h0 h1 => by
  rw [c1]
  exact pull_ok (c1 := 40014) (c2 := 52387) (c3 := 5) (c4 := 2147483587) (c5 := 6007) (c6 := 30029) (c7 := 2147483563) (c8 := 127) (by decide) (by decide) (by decide) (by decide) (by decide) (by decide) (by decide) U hk h0 h1
theorem of_f (n : Nat) : OneF (Fx (n + 2)) 4 := fun s u k0 ds U hk h0 h1 => by
  rw [c4]
  exact one_ok (draw_f n) U hk h0 h1
theorem ofS_f (n : Nat) {s : Sto} {u v : Nat} {k0 : Int} {ds : List D} (U : Urn s u k0) (hk : k0 ≤ 10 ^ 100) (hn : v ≠ u) (h : s[v]? = some (.lst ds)) (h0 : 0 < ds.length) (h1 : ds.length ≤ 1000000) :
    (Fx (n + 2) 4 [.ref u, .ref v] s).wp fun d s' => d ∈ ds ∧ Urn s' u (k0 + 1) ∧ Kp u s s' := by
  rw [c4]
  exact one_okS (draw_f n) U hk hn h h0 h1
theorem well_f (n : Nat) (ns : List Int) (s : Sto) (t : Nat) (ht : t ≤ 1000000) : (Fx (n + 1) 61 [.ro (ns.map .int), .int t] s).wp fun d s' => d = .ref s.length ∧ Urn s' s.length 0 ∧ ∃ x, s' = s ++ [x] := by
  rw [c61]
  exact urn_ok (c1 := 703711) (c2 := 131) (c3 := 10) (c4 := 57349) (c5 := 2147483399) (c6 := 19) (c7 := 2147483587) (c8 := 37) (c9 := 2147483399) (c10 := 20011) (c11 := 11) (e1 := 10) (e2 := 16) (by decide) (by decide) (by decide) (by decide) (by decide) (by decide) (by decide) (by decide) (by decide) (by decide) ht
/-- a small fraction, in whatever terms -/
def isNum (d : D) : Prop := ∃ a b : Int, d = .tup [.int a, .int b] ∧ -10 ≤ a ∧ a ≤ 10 ∧ -10 ≤ b ∧ b ≤ 4 ∧ 0 < b ∧ Nat.gcd a.natAbs b.natAbs = 1
theorem low_gcd (a b : Int) (hb : 0 < b) : 0 < b / ((Nat.gcd a.natAbs b.natAbs : Nat) : Int) ∧ Nat.gcd (a / ((Nat.gcd a.natAbs b.natAbs : Nat) : Int)).natAbs (b / ((Nat.gcd a.natAbs b.natAbs : Nat) : Int)).natAbs = 1 := by
  have hg : 0 < Nat.gcd a.natAbs b.natAbs := Nat.gcd_pos_of_pos_right _ (by omega)
  have da : ((Nat.gcd a.natAbs b.natAbs : Nat) : Int) ∣ a := Int.ofNat_dvd_left.mpr (Nat.gcd_dvd_left _ _)
  have db : ((Nat.gcd a.natAbs b.natAbs : Nat) : Int) ∣ b := Int.ofNat_dvd_left.mpr (Nat.gcd_dvd_right _ _)
  refine ⟨Int.ediv_pos_of_pos_of_dvd hb (by omega) db, ?_⟩
  rw [Int.natAbs_ediv_of_dvd da, Int.natAbs_ediv_of_dvd db, Int.natAbs_natCast]
  exact Nat.gcd_div_gcd_div_gcd_of_pos_right (by omega)
theorem number_f (n : Nat) (s : Sto) (u : Nat) (k0 : Int) (U : Urn s u k0) (hk : k0 ≤ 10 ^ 50) :
    (Fx (n + 2) 2 [.ref u] s).wp fun d s' => isNum d ∧ Urn s' u (k0 + 3) ∧ Kp u s s' := by
  rw [c2]
  simp [runB, m_law_number]
  refine R.wp_mono (draw_f n s u k0 _ U (by omega) (by omega) (by omega)) fun d s1 h => ?_
  obtain ⟨x, rfl, x0, x1, U1, K1⟩ := h
  simp
  by_cases hx : 0 < x
  · simp [hx]
    refine R.wp_mono (draw_f n s1 u _ _ U1 (by omega) (by omega) (by omega)) fun d s2 h => ?_
    obtain ⟨y, rfl, y0, y1, U2, K2⟩ := h
    obtain ⟨e, he, e1⟩ := ix_in (ds := [.tup [.int 0, .int 1], .tup [.int 1, .int 1], .tup [.int (-1), .int 1], .tup [.int 2, .int 1], .tup [.int 0, .int 1], .tup [.int (-2), .int 1], .tup [.int 3, .int 1], .tup [.int 1, .int 1]]) (s := s2) y0 (by simpa using y1)
    rw [e1]
    refine ⟨?_, U2.mono (by omega), K1.trans K2⟩
    simp at he
    rcases he with rfl | rfl | rfl | rfl | rfl | rfl | rfl | rfl <;> exact ⟨_, _, rfl, by omega, by omega, by omega, by omega, by omega, by decide⟩
  · simp [hx]
    refine R.wp_mono (draw_f n s1 u _ _ U1 (by omega) (by omega) (by omega)) fun d s2 h => ?_
    obtain ⟨y, rfl, y0, y1, U2, K2⟩ := h
    simp
    refine R.wp_mono (draw_f n s2 u _ _ U2 (by omega) (by omega) (by omega)) fun d s3 h => ?_
    obtain ⟨z, rfl, z0, z1, U3, K3⟩ := h
    have bb := bg_60
    simp [frac_f n s3 (y - 6) (2 + z) (by omega) ⟨by omega, by omega⟩]
    refine ⟨⟨_, _, rfl, ?_⟩, U3.mono (by omega), (K1.trans K2).trans K3⟩
    have hg : 0 < Nat.gcd (y - 6).natAbs (2 + z).natAbs := Nat.gcd_pos_of_pos_right _ (by omega)
    have hg2 : Nat.gcd (y - 6).natAbs (2 + z).natAbs ≤ (2 + z).natAbs := Nat.gcd_le_right _ (by omega)
    have : Nat.gcd (y - 6).natAbs (2 + z).natAbs = 1 ∨ Nat.gcd (y - 6).natAbs (2 + z).natAbs = 2 ∨ Nat.gcd (y - 6).natAbs (2 + z).natAbs = 3 ∨ Nat.gcd (y - 6).natAbs (2 + z).natAbs = 4 := by omega
    have lg := low_gcd (y - 6) (2 + z) (by omega)
    refine (fun (q : _ ∧ _ ∧ _ ∧ _) => ⟨q.1, q.2.1, q.2.2.1, q.2.2.2, lg.1, lg.2⟩) ?_
    rcases this with e | e | e | e <;> (rw [e]; omega)
theorem lrowgen_f (n : Nat) (s : Sto) (u : Nat) (k0 w : Int) (U : Urn s u k0) (hk : k0 ≤ 10 ^ 40) (h0 : 0 ≤ w) (h1 : w ≤ 12) :
    (Fx (n + 3) 3 [.ref u, .int w] s).wp fun d s' => ∃ ds, d = .tup ds ∧ (ds.length : Int) = w ∧ (∀ x ∈ ds, isNum x) ∧ Urn s' u (k0 + 40) ∧ Kq u s s' := by
  rw [c3]
  have hr : rgB 0 w = true := rgB_yes _ _ (by omega) (by omega) (by omega) (by omega) (by omega)
  have hu := U.lt
  simp [runB, m_law_row, hr]
  refine for_wp (fun l env st => ∃ acc z, env = [some (.ref u), some (.int w), some (.ref s.length), z] ∧ st[s.length]? = some (.lst acc) ∧ (acc.length : Int) + l.length = w ∧ (∀ x ∈ acc, isNum x) ∧ Urn st u (k0 + 3 * acc.length) ∧ Kq u s st) ?_ ?_ _ _ _ ⟨[], _, rfl, app_at _ _, by simp [rgI_len]; omega, nofun, (U.push _).mono (by simp), Kq.push u s _⟩
  · rintro d r env st ⟨acc, z, rfl, ha, hl, hn, U', K⟩
    simp only [List.length_cons] at hl
    simp [lstD_ref ha]
    refine R.wp_mono (number_f n st u _ U' (by omega)) fun d s1 h => ?_
    obtain ⟨hd, U1, K1⟩ := h
    have ha1 := K1.q.at_ (by omega) ha
    simp [opApp_ref ha1 (y := d) (by omega)]
    refine ⟨acc ++ [d], set_at ha1 _, ?_, ?_, (U1.other _ (by omega)).mono ?_, (K.trans K1.q).new (Nat.le_refl _)⟩
    · simp; omega
    · intro x hx
      rcases List.mem_append.mp hx with hx | hx
      · exact hn x hx
      · rw [List.mem_singleton.mp hx]
        exact hd
    · simp; omega
  · rintro env st ⟨acc, z, rfl, ha, hl, hn, U', K⟩
    simp [opTupOf_ref ha]
    exact ⟨by simpa using hl, hn, U'.mono (by simp at hl; omega), K⟩
def isW (n : Int) (w : D) : Prop := ∃ row f, w = .tup [.tup row, f] ∧ (row.length : Int) = n ∧ (∀ x ∈ row, isNum x) ∧ isNum f
theorem toPs_all {P : D → Prop} (h : ∀ d, P d → ∃ p, toP d = some p ∧ p.canLay0 = true) : ∀ ds : List D, (∀ x ∈ ds, P x) → ∃ ps, toPs ds = some ps ∧ PyData.canLayAll0 ps = true ∧ ps.length = ds.length
  | [], _ => ⟨[], by simp [toPs], by simp [PyData.canLayAll0], rfl⟩
  | d :: ds, q => by
    obtain ⟨p, e1, e2⟩ := h d (q d (.head _))
    obtain ⟨ps, e3, e4, e5⟩ := toPs_all h ds fun x hx => q x (.tail _ hx)
    exact ⟨p :: ps, by simp [toPs, e1, e3], by simp [PyData.canLayAll0, e2, e4], by simp [e5]⟩
theorem toP_num (d : D) (h : isNum d) : ∃ p, toP d = some p ∧ p.canLay0 = true := by
  obtain ⟨a, b, rfl, _⟩ := h
  exact ⟨.tuple [.int a, .int b], by simp [toP, toPs], by simp [PyData.canLay0, PyData.canLayAll0]⟩
theorem toP_W (n : Int) (d : D) (h : isW n d) : ∃ p, toP d = some p ∧ p.canLay0 = true := by
  obtain ⟨row, f, rfl, _, h1, h2⟩ := h
  obtain ⟨p, e1, e2⟩ := toP_num f h2
  obtain ⟨ps, e3, e4, _⟩ := toPs_all toP_num row h1
  exact ⟨.tuple [.tuple ps, p], by simp [toP, toPs, e1, e3], by simp [PyData.canLay0, PyData.canLayAll0, e2, e4]⟩
theorem neNil {s : Sto} {n : Nat} {acc : List D} {w : Int} (h : s[n]? = some (.lst acc)) (hw : ∀ x ∈ acc, isW w x) : opEq true (.ref n) (.lst []) s = .ok (.bl (!acc.isEmpty)) s := by
  obtain ⟨ps, e3, e4, e5⟩ := toPs_all (toP_W w) acc hw
  have e : toPd (.ref n) s = some (.list ps) := by
    show (match s[n]? with | some (.lst ds) => (match toPs ds with | some ps => some (PyData.list ps) | none => none) | _ => none) = _
    rw [h]
    show (match toPs acc with | some ps => some (PyData.list ps) | none => none) = _
    rw [e3]
  have e2 : toPd (.lst []) s = some (.list []) := by simp [toPd, toP, toPs]
  show (match toPd (.ref n) s, toPd (.lst []) s with | some p, some q => (if p.canLay0 && q.canLay0 && decide (min p.depth q.depth ≤ 64) then R.ok (D.bl (!PyData.eqv p q)) s else .bad) | _, _ => .bad) = _
  rw [e, e2]
  show (if (PyData.list ps).canLay0 && (PyData.list []).canLay0 && decide (min (PyData.list ps).depth (PyData.list []).depth ≤ 64) then R.ok (D.bl (!PyData.eqv (.list ps) (.list []))) s else .bad) = _
  rw [if_pos]
  · cases ps with
    | nil => cases acc with
      | nil => simp [PyData.eqv, PyData.eqvAll]
      | cons => simp at e5
    | cons => cases acc with
      | nil => simp at e5
      | cons => simp [PyData.eqv, PyData.eqvAll]
  · have : (PyData.list []).depth ≤ 64 := by simp [PyData.depth, PyData.depthAll]
    simp [PyData.canLay0, PyData.canLayAll0, e4]
    omega
end K03
set_option maxHeartbeats 400000
set_option exponentiation.threshold 1000
namespace K03
open PySem PySem.Spec L2 Rf
/-! ### sums and products of fractions: the program's and the law's -/
theorem frac_q (n : Nat) (s : Sto) (a b : Int) (ha : a.natAbs ≤ BG) (hb : 0 < b) (hb2 : b.natAbs ≤ BG) : Fx (n + 1) 0 [.int a, .int b] s = .ok (qd (qn a b)) s := frac_f n s a b ha ⟨hb, hb2⟩
theorem ratio_q (n : Nat) (s : Sto) (a b : Int) (hb : 0 < b) (hb2 : b.natAbs ≤ BG) : Fx (n + 2) 20 [.int a, .int b] s = .ok (qd (qn a b)) s := by
  have dv : ∀ i j : Int, Fx (n + 1) 14 [.int i, .int j] s = .ok (.int ((Nat.gcd i.natAbs j.natAbs : Nat) : Int)) s := fun i j => by
    rw [c14]
    simp [runB, m_divisor_of]
  have hg : 0 < Nat.gcd a.natAbs b.natAbs := Nat.gcd_pos_of_pos_right _ (by omega)
  have hg2 : Nat.gcd a.natAbs b.natAbs ≤ b.natAbs := Nat.gcd_le_right _ (by omega)
  rw [c20]
  simp (disch := first | omega | (simp; done) | (simp; omega)) [runB, o_mulW, o_divW, m_ratio, dv, hb, qd, qn]
theorem lup_q (n : Nat) (s : Sto) (p q : Q) (A B : Nat) (hp : bq A p) (hq : bq B q) (hA : A ≤ BG) (hB : B ≤ BG) : Fx (n + 1) 9 [qd p, qd q] s = .ok (.bl (ple p q)) s := by
  have ⟨p1, p2, p3⟩ := hp
  have ⟨q1, q2, q3⟩ := hq
  rw [c9]
  simp (disch := first | omega | (simp; done) | (simp; omega)) [runB, o_mulW, o_divW, m_law_up_to, qd, ple]
theorem AB {A B M : Nat} {p q : Q} (hp : bq A p) (hq : bq B q) (h : A * B ≤ M) : A ≤ M ∧ B ≤ M := by
  have a1 : 1 ≤ A := Nat.le_trans (by have := hp.1; omega) hp.2.2
  have b1 : 1 ≤ B := Nat.le_trans (by have := hq.1; omega) hq.2.2
  exact ⟨Nat.le_trans (Nat.le_mul_of_pos_right A (by omega)) h, Nat.le_trans (Nat.le_mul_of_pos_left B (by omega)) h⟩
theorem plus_q (n : Nat) (s : Sto) (p q : Q) (A B : Nat) (hp : bq A p) (hq : bq B q) (h : 2 * (A * B) ≤ BG) : Fx (n + 3) 50 [qd p, qd q] s = .ok (qd (padd p q)) s := by
  obtain ⟨hA, hB⟩ := AB hp hq (show A * B ≤ BG by omega)
  have ⟨p1, p2, p3⟩ := hp
  have ⟨q1, q2, q3⟩ := hq
  obtain ⟨h1, h2, h3⟩ := add_b hp hq
  have r := ratio_q n s (p.1 * q.2 + q.1 * p.2) (p.2 * q.2) h3 (by omega)
  rw [c50]
  simp (disch := first | omega | (simp; done) | (simp; omega)) [runB, o_mulW, o_divW, m_plus, qd, r]
  simp [qd, padd]
theorem lplus_q (n : Nat) (s : Sto) (p q : Q) (A B : Nat) (hp : bq A p) (hq : bq B q) (h : 2 * (A * B) ≤ BG) : Fx (n + 2) 6 [qd p, qd q] s = .ok (qd (padd p q)) s := by
  obtain ⟨hA, hB⟩ := AB hp hq (show A * B ≤ BG by omega)
  have ⟨p1, p2, p3⟩ := hp
  have ⟨q1, q2, q3⟩ := hq
  obtain ⟨h1, h2, h3⟩ := add_b hp hq
  have r := frac_q n s (p.1 * q.2 + q.1 * p.2) (p.2 * q.2) (by omega) h3 (by omega)
  rw [c6]
  simp (disch := first | omega | (simp; done) | (simp; omega)) [runB, o_mulW, o_divW, m_law_plus, qd, r]
  simp [qd, padd]
theorem times_q (n : Nat) (s : Sto) (p q : Q) (A B : Nat) (hp : bq A p) (hq : bq B q) (h : A * B ≤ BG) : Fx (n + 3) 21 [qd p, qd q] s = .ok (qd (pmul p q)) s := by
  obtain ⟨hA, hB⟩ := AB hp hq h
  have ⟨p1, p2, p3⟩ := hp
  have ⟨q1, q2, q3⟩ := hq
  obtain ⟨h1, h2, h3, h4, h5⟩ := mul_b hp hq
  have r := ratio_q n s (p.1 * q.1) (p.2 * q.2) h5 (by omega)
  rw [c21]
  simp (disch := first | omega | (simp; done) | (simp; omega)) [runB, o_mulW, o_divW, m_times, qd, r]
  simp [qd, pmul]
theorem ltimes_q (n : Nat) (s : Sto) (p q : Q) (A B : Nat) (hp : bq A p) (hq : bq B q) (h : A * B ≤ BG) : Fx (n + 2) 7 [qd p, qd q] s = .ok (qd (pmul p q)) s := by
  obtain ⟨hA, hB⟩ := AB hp hq h
  have ⟨p1, p2, p3⟩ := hp
  have ⟨q1, q2, q3⟩ := hq
  obtain ⟨h1, h2, h3, h4, h5⟩ := mul_b hp hq
  have r := frac_q n s (p.1 * q.1) (p.2 * q.2) (by omega) h5 (by omega)
  rw [c7]
  simp (disch := first | omega | (simp; done) | (simp; omega)) [runB, o_mulW, o_divW, m_law_times, qd, r]
  simp [qd, pmul]
/-- the bounds of one turn of a sum of products -/
theorem turn_b {P c k : Nat} (h : P * (2 * c) ^ (k + 1) ≤ BG) (hc : 1 ≤ c) : 2 * (P * c) ≤ BG ∧ 2 * (P * c) * (2 * c) ^ k ≤ BG := by
  have e : 2 * (P * c) * (2 * c) ^ k = P * (2 * c) ^ (k + 1) := by
    rw [Nat.pow_succ, Nat.mul_comm ((2 * c) ^ k), ← Nat.mul_assoc, ← Nat.mul_assoc, ← Nat.mul_assoc, Nat.mul_comm P 2]
  rw [← e] at h
  exact ⟨Nat.le_trans (Nat.le_mul_of_pos_right _ (Nat.pow_pos (by omega))) h, h⟩
theorem dot_loop (n : Nat) (s : Sto) (A B : Nat) (a0 a1 : D) (all : List D) : ∀ (xs ys : List Q) (acc : Q) (z3 z4 : Option D) (P k : Nat), bq P acc → gd acc → (∀ x ∈ xs, bq A x) → (∀ y ∈ ys, bq B y) → ys.length ≤ k → P * (2 * (A * B)) ^ k ≤ BG →
    (forL (gTp 2 (gCons (gNm 3) (gCons (gNm 4) gNil))) (mIfS (mAndT (mTest (mOp2 (opEq true) (mOp2 opIx (mVar 3) (mCst (.int 0))) (mCst (.int 0)))) (mTest (mOp2 (opEq true) (mOp2 opIx (mVar 4) (mCst (.int 0))) (mCst (.int 0)))))
      (mAsg (gNm 2) (mCall (Fx (n + 3)) 50 [.at 0, .at 1] (mCons (mVar 2) (mCons (mCall (Fx (n + 3)) 21 [.at 0, .at 1] (mCons (mVar 3) (mCons (mVar 4) mNil))) mNil)))) mPass) none all (zip2D (xs.map qd) (ys.map qd)) [some a0, some a1, some (qd acc), z3, z4] s).wp
      fun f s' => s' = s ∧ ∃ z3 z4, f = .nx [some a0, some a1, some (qd (dotA acc xs ys)), z3, z4]
  | [], ys, acc, z3, z4, P, k, _, _, _, _, _, _ => by
    simp [forL, gstB, dotA]
  | x :: xs, [], acc, z3, z4, P, k, _, _, _, _, _, _ => by
    simp [forL, gstB, dotA]
  | x :: xs, y :: ys, acc, z3, z4, P, 0, _, _, _, _, hk, _ => by simp at hk
  | x :: xs, y :: ys, acc, z3, z4, P, k + 1, h, hg, hx, hy, hk, hb => by
    have bx := hx x (.head _)
    have by' := hy y (.head _)
    have c1 : 1 ≤ A * B := Nat.mul_pos (by have := bx.1; have := bx.2.2; omega) (by have := by'.1; have := by'.2.2; omega)
    obtain ⟨t1, t2⟩ := turn_b hb c1
    have bm := pmul_bq bx by'
    have e : zip2D ((x :: xs).map qd) ((y :: ys).map qd) = .tup [qd x, qd y] :: zip2D (xs.map qd) (ys.map qd) := by simp
    have e2 : dotA acc (x :: xs) (y :: ys) = dotA (padd acc (pmul x y)) xs ys := rfl
    rw [e, e2]
    unfold forL
    rw [if_pos (show gstB none all s = true from rfl)]
    have ih := dot_loop n s A B a0 a1 all xs ys (padd acc (pmul x y)) (some (qd x)) (some (qd y)) (2 * (P * (A * B))) k (padd_bq h bm) (padd_gd h.1 bm.1) (fun x h => hx x (.tail _ h)) (fun y h => hy y (.tail _ h)) (by simpa using hk) t2
    have ix : ∀ p : Q, opIx (qd p) (.int 0) s = .ok (.int p.1) s := fun p => o_ix0 _ _
    by_cases h0 : x.1 = 0
    · simp [ix, h0]
      rw [pmul_z bx.1 by'.1 (.inl h0), padd_z hg] at ih
      rw [pmul_z bx.1 by'.1 (.inl h0), padd_z hg]
      exact ih
    · by_cases h1 : y.1 = 0
      · simp [ix, h0, h1]
        rw [pmul_z bx.1 by'.1 (.inr h1), padd_z hg] at ih
        rw [pmul_z bx.1 by'.1 (.inr h1), padd_z hg]
        exact ih
      · have m1 : A * B ≤ BG := by
          have : A * B ≤ P * (A * B) := Nat.le_mul_of_pos_left _ (by have := h.1; have := h.2.2; omega)
          omega
        have q1 := times_q n s x y A B bx by' m1
        have q2 := plus_q n s acc (pmul x y) P (A * B) h bm t1
        simp [ix, h0, h1, q1, q2]
        exact ih
theorem dot_q (n : Nat) (s : Sto) (A B : Nat) (xs ys : List Q) (hx : ∀ x ∈ xs, bq A x) (hy : ∀ y ∈ ys, bq B y) (k : Nat) (hk : ys.length ≤ k) (hb : (2 * (A * B)) ^ k ≤ BG) : Fx (n + 4) 51 [rd xs, rd ys] s = .ok (qd (dotQ xs ys)) s := by
  rw [c51]
  have l := fun z3 z4 => dot_loop n s A B (rd xs) (rd ys) (zip2D (xs.map qd) (ys.map qd)) xs ys (0, 1) z3 z4 1 k ⟨by decide, by decide, by decide⟩ ⟨by decide, by decide⟩ hx hy hk (by rw [Nat.one_mul]; exact hb)
  refine wp_eq ?_
  simp [runB, m_dot]
  refine R.wp_mono (l none none) fun f s' h => ?_
  obtain ⟨rfl, z3, z4, rfl⟩ := h
  simp
  rfl
/-- a fraction told no greater than BG -/
theorem pl_qd {A : Nat} {p : Q} (h : bq A p) (hA : A ≤ BG) : pl 10000 (BG : Int) (qd p) := by
  obtain ⟨h0, h1, h2⟩ := h
  refine pl_tup.mpr ⟨by simp, fun x hx => ?_⟩
  simp at hx
  rcases hx with rfl | rfl <;> exact pl_int.mpr (by omega)
theorem pl_rd {A : Nat} {r : List Q} (hl : r.length ≤ 10000) (h : ∀ x ∈ r, bq A x) (hA : A ≤ BG) : pl 10000 (BG : Int) (rd r) := pl_tup.mpr ⟨by simpa using hl, fun x hx => by
  obtain ⟨p, hp, rfl⟩ := List.mem_map.mp hx
  exact pl_qd (h p hp) hA⟩
theorem pl_wd {A : Nat} {w : List Q × Q} (hl : w.1.length ≤ 10000) (h : ∀ x ∈ w.1, bq A x) (h2 : bq (10 ^ 30) w.2) (hA : A ≤ BG) : pl 10000 (BG : Int) (wd w) := pl_tup.mpr ⟨by simp, fun x hx => by
  simp at hx
  rcases hx with rfl | rfl
  · exact pl_rd hl h hA
  · exact pl_qd h2 (Nat.le_trans (by decide +kernel) bg_60)⟩
theorem pl_ld {A : Nat} {m : Int} {ws : List (List Q × Q)} (hm : -1000 ≤ m ∧ m ≤ 1000) (hl : ws.length ≤ 10000) (h : ∀ w ∈ ws, w.1.length ≤ 10000 ∧ (∀ x ∈ w.1, bq A x) ∧ bq (10 ^ 30) w.2) (hA : A ≤ BG) : pl 10000 (BG : Int) (ld m ws) := pl_tup.mpr ⟨by simp, fun x hx => by
  simp at hx
  rcases hx with rfl | rfl
  · exact pl_int.mpr (by have := bg_60; omega)
  · refine pl_tup.mpr ⟨by simpa using hl, fun x hx => ?_⟩
    obtain ⟨w, hw, rfl⟩ := List.mem_map.mp hx
    exact pl_wd (h w hw).1 (h w hw).2.1 (h w hw).2.2 hA⟩
theorem chklot_q (n : Nat) (s : Sto) {A : Nat} {m : Int} {ws : List (List Q × Q)} (hm : 1 ≤ m ∧ m ≤ 12) (hl : ws.length ≤ 100) (h : ∀ w ∈ ws, okW m w) (hb : ∀ w ∈ ws, (∀ x ∈ w.1, bq A x) ∧ bq (10 ^ 30) w.2) (hA : A ≤ BG) : Fx (n + 7) 19 [ld m ws] s = .ok .non s := by
  have p := pl_ld (A := A) (m := m) (ws := ws) (by omega) (by omega) (fun w hw => ⟨by have := (h w hw).1; omega, hb w hw⟩) hA
  have q := lotby_f n s (ld m ws) p 100
  rw [isLot_ld hm (by omega) h] at q
  rw [c19]
  simp [runB, m_check_lot, q]
def inE (r : List Q) (d : D) : Prop := ∃ (i : Int) (p : Q), d = .tup [.int i, qd p] ∧ p ∈ r
theorem chkrow_q (n : Nat) (s : Sto) {A : Nat} {m : Int} {r : List Q} (hm : (r.length : Int) = m) (hl : r.length ≤ 10000) (h : ∀ x ∈ r, gd x) (hb : ∀ x ∈ r, bq A x) (hA : A ≤ BG) : Fx (n + 4) 48 [.int m, rd r] s = .ok .non s := by
  rw [c48]
  refine wp_eq ?_
  simp [runB, m_check_row, Ty.sub, hm]
  have ok : ∀ d ∈ enumD 0 (r.map qd), inE r d := fun d hd => by
    obtain ⟨i, hi⟩ := List.mem_iff_getElem?.mp hd
    obtain ⟨x, h1, rfl⟩ := enumD_at hi
    rw [List.getElem?_map] at h1
    cases e : r[i]? with
    | none => rw [e] at h1; cases h1
    | some p => rw [e] at h1; cases h1; exact ⟨_, p, rfl, List.mem_of_getElem? e⟩
  refine for_wp (fun l env st => st = s ∧ (∀ d ∈ l, inE r d) ∧ ∃ z2 z3, env = [some (.int m), some (rd r), z2, z3]) ?_ ?_ _ _ _ ⟨rfl, ok, _, _, rfl⟩
  · rintro d l env st ⟨rfl, ho, z2, z3, rfl⟩
    obtain ⟨i, p, rfl, hp⟩ := ho _ (.head _)
    have q := ratio_f n st (qd p) (pl_qd (hb p hp) hA)
    rw [isRat_qd (h p hp)] at q
    simp [q]
    exact fun d hd => ho d (.tail _ hd)
  · rintro env st ⟨rfl, -, z2, z3, rfl⟩
    simp
end K03
set_option maxHeartbeats 400000
set_option exponentiation.threshold 1000
namespace K03
open PySem PySem.Spec L2 Rf
/-! ### the program's wishes -/
theorem noughts_q (n k : Nat) (s : Sto) (hk : k ≤ 1000) : Fx (n + 1) 22 [.int k] s = .ok (.tup ((List.replicate k (0, 1)).map qd)) s := by
  rw [c22]
  have o := opMul_rep (s := s) (qd (0, 1)) k (by omega)
  have e : qd (0, 1) = .tup [.int 0, .int 1] := rfl
  rw [e] at o
  simp [runB, m_noughts, o, e]
theorem scaled_q (n : Nat) (s : Sto) (A B : Nat) (r : List Q) (x : Q) (hr : ∀ y ∈ r, bq A y) (hx : bq B x) (h : A * B ≤ BG) : Fx (n + 4) 27 [rd r, qd x] s = .ok (rd (r.map fun y => pmul y x)) s := by
  rw [c27]
  have l : lcL [2] (gNm 2) mYes (mCall (Fx (n + 3)) 21 [.at 0, .at 1] (mCons (mVar 2) (mCons (mVar 1) mNil))) none (r.map qd) [some (rd r), some (qd x), none] (r.map qd) s [] = .ok ([] ++ r.map fun y => qd (pmul y x)) s := by
    refine lc_mapA r [] fun y hy => ⟨_, rfl, ?_⟩
    have q := times_q n s y x A B (hr y hy) hx h
    simp [q]
  simp [runB, m_scaled, l]
def mixA : List Q → List (List Q) → List Q → List Q
  | acc, r :: rs, n :: ns => mixA (List.zipWith padd acc (r.map fun y => pmul y n)) rs ns
  | acc, _, _ => acc
theorem zip_zero : ∀ (acc r : List Q) (x : Q), acc.length = r.length → (∀ y ∈ acc, gd y) → (∀ y ∈ r, 0 < y.2) → 0 < x.2 → x.1 = 0 → List.zipWith padd acc (r.map fun y => pmul y x) = acc
  | [], r, x, _, _, _, _, _ => by simp
  | a :: acc, [], x, h, _, _, _, _ => by simp at h
  | a :: acc, y :: r, x, h, h1, h2, h3, h4 => by
    have e := pmul_z (h2 y (.head _)) h3 (.inr h4)
    rw [List.map_cons, List.zipWith_cons_cons, e, padd_z (h1 a (.head _)), zip_zero acc r x (by simpa using h) (fun y hy => h1 y (.tail _ hy)) (fun y hy => h2 y (.tail _ hy)) h3 h4]
theorem zip_ok {P c : Nat} : ∀ (acc ys : List Q), (∀ y ∈ acc, bq P y) → (∀ y ∈ ys, bq c y) → ∀ z ∈ List.zipWith padd acc ys, gd z ∧ bq (2 * (P * c)) z
  | [], _, _, _, z, hz => by simp at hz
  | _ :: _, [], _, _, z, hz => by simp at hz
  | a :: acc, y :: ys, h1, h2, z, hz => by
    rw [List.zipWith_cons_cons] at hz
    rcases List.mem_cons.mp hz with rfl | hz
    · have b1 := h1 a (.head _)
      have b2 := h2 y (.head _)
      exact ⟨padd_gd b1.1 b2.1, padd_bq b1 b2⟩
    · exact zip_ok acc ys (fun y hy => h1 y (.tail _ hy)) (fun y hy => h2 y (.tail _ hy)) z hz
theorem pmul_comm (p q : Q) : pmul p q = pmul q p := by
  unfold pmul
  rw [Int.mul_comm p.1, Int.mul_comm p.2]
theorem mixA_eq (b : Nat) : ∀ (rs : List (List Q)) (ns acc : List Q), acc.length = b → (∀ r ∈ rs, r.length = b) → mixA acc rs ns = (List.range b).map fun i => dotA (acc.getD i (0, 1)) ns (rs.map fun r => r.getD i (0, 1))
  | [], ns, acc, h, _ => by
    have em : mixA acc [] ns = acc := by cases ns <;> rfl
    rw [em]
    refine List.ext_getElem (by simp [h]) fun i h1 h2 => ?_
    have e : dotA (acc.getD i (0, 1)) ns ([].map fun r : List Q => r.getD i (0, 1)) = acc.getD i (0, 1) := by cases ns <;> rfl
    have h3 : i < acc.length := by simpa [mixA] using h1
    simp only [List.getElem_map, List.getElem_range, e]
    rw [List.getD_eq_getElem?_getD, List.getElem?_eq_getElem h3]
    rfl
  | r :: rs, [], acc, h, _ => by
    refine List.ext_getElem (by simp [mixA, h]) fun i h1 h2 => ?_
    have e : dotA (acc.getD i (0, 1)) [] ((r :: rs).map fun r : List Q => r.getD i (0, 1)) = acc.getD i (0, 1) := rfl
    have h3 : i < acc.length := by simpa [mixA] using h1
    simp only [List.getElem_map, List.getElem_range, e]
    rw [List.getD_eq_getElem?_getD, List.getElem?_eq_getElem h3]
    rfl
  | r :: rs, x :: ns, acc, h, hr => by
    have hl := hr r (.head _)
    have ih := mixA_eq b rs ns (List.zipWith padd acc (r.map fun y => pmul y x)) (by rw [List.length_zipWith, List.length_map, h, hl]; omega) fun r h => hr r (.tail _ h)
    show mixA (List.zipWith padd acc (r.map fun y => pmul y x)) rs ns = _
    rw [ih]
    refine List.map_congr_left fun i hi => ?_
    have hi' : i < b := List.mem_range.mp hi
    have e : (List.zipWith padd acc (r.map fun y => pmul y x)).getD i (0, 1) = padd (acc.getD i (0, 1)) (pmul x (r.getD i (0, 1))) := by
      rw [List.getD_eq_getElem?_getD, List.getElem?_zipWith, List.getElem?_map, List.getElem?_eq_getElem (by omega : i < acc.length), List.getElem?_eq_getElem (by omega : i < r.length), List.getD_eq_getElem?_getD, List.getElem?_eq_getElem (by omega : i < acc.length), List.getD_eq_getElem?_getD, List.getElem?_eq_getElem (by omega : i < r.length), pmul_comm]
      rfl
    rw [e]
    rfl
end K03
set_option maxHeartbeats 400000
set_option exponentiation.threshold 9000
namespace K03
open PySem PySem.Spec L2 Rf
/-! ### papers, judged -/
abbrev W := List Q × Q
/-- a lot that is right, its numbers small -/
structure LotOk (n : Nat) (ws : List W) : Prop where
  hn : 1 ≤ n ∧ n ≤ 4
  l : ws.length ≤ 9
  w : ∀ v ∈ ws, v.1.length = n ∧ (∀ x ∈ v.1, gd x ∧ bq (10 ^ 15) x) ∧ gd v.2 ∧ bq (10 ^ 15) v.2
theorem LotOk.rows {n : Nat} {ws : List W} (h : LotOk n ws) : ∀ r ∈ ws.map (·.1), r.length = n ∧ ∀ x ∈ r, bq (10 ^ 15) x := fun r hr => by
  obtain ⟨v, hv, rfl⟩ := List.mem_map.mp hr
  exact ⟨(h.w v hv).1, fun x hx => ((h.w v hv).2.1 x hx).2⟩
theorem LotOk.bounds {n : Nat} {ws : List W} (h : LotOk n ws) : ∀ x ∈ ws.map (·.2), bq (10 ^ 15) x := fun r hr => by
  obtain ⟨v, hv, rfl⟩ := List.mem_map.mp hr
  exact (h.w v hv).2.2.2
def made (n : Nat) (ws : List W) (qs : List Q) : List Q := mixA (List.replicate n (0, 1)) (ws.map (·.1)) qs
def reach (ws : List W) (qs : List Q) : Q := dotQ qs (ws.map (·.2))
theorem ld1 (n : Int) (ws : List W) (s : Sto) : opIx (ld n ws) (.int 1) s = .ok (.tup (ws.map wd)) s := o_ix1 _ _ _
theorem ld0 (n : Int) (ws : List W) (s : Sto) : opIx (ld n ws) (.int 0) s = .ok (.int n) s := o_ix0 _ _
theorem mixA_ok (b A B : Nat) : ∀ (rs : List (List Q)) (ns acc : List Q) (P k : Nat), acc.length = b → (∀ x ∈ acc, gd x ∧ bq P x) → (∀ r ∈ rs, r.length = b ∧ ∀ x ∈ r, bq A x) → (∀ x ∈ ns, bq B x) → ns.length ≤ k → 1 ≤ P → 1 ≤ A * B → (mixA acc rs ns).length = b ∧ ∀ x ∈ mixA acc rs ns, gd x ∧ bq (P * (2 * (A * B)) ^ k) x
  | [], ns, acc, P, k, hl, ha, _, _, _, hP, hc => by
    have em : mixA acc [] ns = acc := by cases ns <;> rfl
    rw [em]
    exact ⟨hl, fun x hx => ⟨(ha x hx).1, bq_mono (Nat.le_mul_of_pos_right _ (Nat.pow_pos (by omega))) (ha x hx).2⟩⟩
  | r :: rs, [], acc, P, k, hl, ha, _, _, _, hP, hc => ⟨hl, fun x hx => ⟨(ha x hx).1, bq_mono (Nat.le_mul_of_pos_right _ (Nat.pow_pos (by omega))) (ha x hx).2⟩⟩
  | r :: rs, x :: ns, acc, P, 0, _, _, _, _, hk, _, _ => by simp at hk
  | r :: rs, x :: ns, acc, P, k + 1, hl, ha, hr, hn, hk, hP, hc => by
    have br := hr r (.head _)
    have bx := hn x (.head _)
    have bm : ∀ y ∈ r.map (fun y => pmul y x), bq (A * B) y := fun y hy => by
      obtain ⟨z, hz, rfl⟩ := List.mem_map.mp hy
      exact pmul_bq (br.2 z hz) bx
    have zo := zip_ok acc (r.map fun y => pmul y x) (fun y hy => (ha y hy).2) bm
    have ih := mixA_ok b A B rs ns (List.zipWith padd acc (r.map fun y => pmul y x)) (2 * (P * (A * B))) k (by rw [List.length_zipWith, List.length_map, hl, br.1]; omega) zo (fun r h => hr r (.tail _ h)) (fun y h => hn y (.tail _ h)) (by simpa using hk) (by have := Nat.mul_pos hP hc; omega) hc
    have e : 2 * (P * (A * B)) * (2 * (A * B)) ^ k = P * (2 * (A * B)) ^ (k + 1) := by
      generalize A * B = c
      rw [Nat.pow_succ, Nat.mul_comm ((2 * c) ^ k), ← Nat.mul_assoc, ← Nat.mul_assoc, ← Nat.mul_assoc, Nat.mul_comm P 2]
    rw [e] at ih
    exact ih
theorem made_ok {n : Nat} {ws : List W} (h : LotOk n ws) {qs : List Q} (hq : ∀ x ∈ qs, bq (10 ^ 45) x) (hl : qs.length ≤ 9) : (made n ws qs).length = n ∧ ∀ x ∈ made n ws qs, gd x ∧ bq (10 ^ 600) x := by
  have := mixA_ok n (10 ^ 15) (10 ^ 45) (ws.map (·.1)) qs (List.replicate n (0, 1)) 1 9 (by simp) (fun x hx => by
    rw [List.eq_of_mem_replicate hx]
    exact ⟨⟨by decide, by decide⟩, by decide, by decide, by decide⟩) h.rows hq hl (Nat.le_refl _) (by decide +kernel)
  exact ⟨this.1, fun x hx => ⟨(this.2 x hx).1, bq_mono (by decide +kernel) (this.2 x hx).2⟩⟩
theorem reach_ok {n : Nat} {ws : List W} (h : LotOk n ws) {qs : List Q} (hq : ∀ x ∈ qs, bq (10 ^ 45) x) : gd (reach ws qs) ∧ bq (10 ^ 600) (reach ws qs) := by
  refine ⟨dotQ_gd (fun x hx => (hq x hx).1) fun y hy => (h.bounds y hy).1, ?_⟩
  have := dotA_bq qs (ws.map (·.2)) (0, 1) 1 ((10 ^ 45) * (10 ^ 15)) 9 ⟨by decide, by decide, by decide⟩ (fun x hx y hy => pmul_bq (hq x hx) (h.bounds y hy)) (by simpa using h.l) (by decide +kernel)
  exact bq_mono (by decide +kernel) this
/-! ### the law's sums -/
theorem lmix_loop (n : Nat) (s : Sto) (b : Nat) (a0 a1 : D) (o : Option Gk) (all : List D) (hg : gstB o all s = true) : ∀ (ws : List W) (qs acc : List Q) (bd : Q) (z4 z5 z6 : Option D) (P k : Nat), acc.length = b → (∀ x ∈ acc, bq P x) → bq P bd → (∀ v ∈ ws, v.1.length = b ∧ (∀ x ∈ v.1, bq (10 ^ 15) x) ∧ bq (10 ^ 15) v.2) → (∀ x ∈ qs, bq (10 ^ 45) x) → qs.length ≤ k → P * (2 * ((10 ^ 15) * (10 ^ 45))) ^ k ≤ BG → 1 ≤ P →
    (forL (gTp 2 (gCons (gTp 2 (gCons (gNm 5) (gCons (gNm 6) gNil))) (gCons (gNm 4) gNil))) (mSeq (mAsg (gNm 2) (mLc false [7, 8] (gTp 2 (gCons (gNm 7) (gCons (gNm 8) gNil))) mYes (mCall (Fx (n + 2)) 6 [.at 0, .at 1] (mCons (mVar 7) (mCons (mCall (Fx (n + 2)) 7 [.at 0, .at 1] (mCons (mVar 4) (mCons (mVar 8) mNil))) mNil))) (mZp (mCons (mVar 2) (mCons (mVar 5) mNil)))))
      (mAsg (gNm 3) (mCall (Fx (n + 2)) 6 [.at 0, .at 1] (mCons (mVar 3) (mCons (mCall (Fx (n + 2)) 7 [.at 0, .at 1] (mCons (mVar 4) (mCons (mVar 6) mNil))) mNil))))) o all (zip2D (ws.map wd) (qs.map qd)) [some a0, some a1, some (.lst (acc.map qd)), some (qd bd), z4, z5, z6, none, none] s).wp
      fun f s' => s' = s ∧ ∃ z4 z5 z6, f = .nx [some a0, some a1, some (.lst ((mixA acc (ws.map (·.1)) qs).map qd)), some (qd (dotA bd qs (ws.map (·.2)))), z4, z5, z6, none, none]
  | [], qs, acc, bd, z4, z5, z6, P, k, _, _, _, _, _, _, _, _ => by
    have em : mixA acc [] qs = acc := by cases qs <;> rfl
    have ed : dotA bd qs [] = bd := by cases qs <;> rfl
    simp [forL, hg, em, ed]
  | v :: ws, [], acc, bd, z4, z5, z6, P, k, _, _, _, _, _, _, _, _ => by
    simp [forL, hg, mixA, dotA]
  | v :: ws, x :: qs, acc, bd, z4, z5, z6, P, 0, _, _, _, _, _, hk, _, _ => by simp at hk
  | v :: ws, x :: qs, acc, bd, z4, z5, z6, P, k + 1, hl, ha, hbd, hw, hq, hk, hb, hP => by
    obtain ⟨v1, v2, v3⟩ := hw v (.head _)
    have bx := hq x (.head _)
    obtain ⟨t1, t2⟩ := turn_b hb (by decide +kernel)
    have bm : ∀ y ∈ v.1.map (fun y => pmul y x), bq ((10 ^ 15) * (10 ^ 45)) y := fun y hy => by
      obtain ⟨z, hz, rfl⟩ := List.mem_map.mp hy
      exact pmul_bq (v2 z hz) bx
    have e : zip2D ((v :: ws).map wd) ((x :: qs).map qd) = .tup [wd v, qd x] :: zip2D (ws.map wd) (qs.map qd) := by simp
    have e2 : mixA acc ((v :: ws).map (·.1)) (x :: qs) = mixA (List.zipWith padd acc (v.1.map fun y => pmul y x)) (ws.map (·.1)) qs := rfl
    have e3 : dotA bd (x :: qs) ((v :: ws).map (·.2)) = dotA (padd bd (pmul x v.2)) qs (ws.map (·.2)) := rfl
    rw [e, e2, e3]
    unfold forL
    rw [if_pos hg]
    have zo := zip_ok acc (v.1.map fun y => pmul y x) ha bm
    have bmv : bq ((10 ^ 15) * (10 ^ 45)) (pmul x v.2) := bq_mono (by decide +kernel) (pmul_bq bx v3)
    have ih := lmix_loop n s b a0 a1 o all hg ws qs (List.zipWith padd acc (v.1.map fun y => pmul y x)) (padd bd (pmul x v.2)) (some (qd x)) (some (rd v.1)) (some (qd v.2)) (2 * (P * ((10 ^ 15) * (10 ^ 45)))) k (by rw [List.length_zipWith, List.length_map, hl, v1]; omega) (fun y hy => (zo y hy).2) (padd_bq hbd bmv) (fun r h => hw r (.tail _ h)) (fun y h => hq y (.tail _ h)) (by simpa using hk) t2 (by omega)
    have ez : zip2D (acc.map qd) (v.1.map qd) = (List.zip acc v.1).map fun z => .tup [qd z.1, qd z.2] := by
      unfold zip2D
      rw [List.zipWith_map, List.zip, List.map_zipWith]
    have lc : lcL [7, 8] (gTp 2 (gCons (gNm 7) (gCons (gNm 8) gNil))) mYes (mCall (Fx (n + 2)) 6 [.at 0, .at 1] (mCons (mVar 7) (mCons (mCall (Fx (n + 2)) 7 [.at 0, .at 1] (mCons (mVar 4) (mCons (mVar 8) mNil))) mNil))) none (zip2D (acc.map qd) (v.1.map qd)) [some a0, some a1, some (.lst (acc.map qd)), some (qd bd), some (qd x), some (rd v.1), some (qd v.2), none, none] (zip2D (acc.map qd) (v.1.map qd)) s [] = .ok ([] ++ (List.zip acc v.1).map fun z => qd (padd z.1 (pmul z.2 x))) s := by
      rw [ez]
      refine lc_mapA (List.zip acc v.1) [] fun z hz => ⟨[some a0, some a1, some (.lst (acc.map qd)), some (qd bd), some (qd x), some (rd v.1), some (qd v.2), some (qd z.1), some (qd z.2)], by simp, ?_⟩
      have hz' := List.of_mem_zip hz
      have m2 := bq_mono (show (10 ^ 45) * (10 ^ 15) ≤ (10 ^ 15) * (10 ^ 45) by decide +kernel) (pmul_bq bx (v2 _ hz'.2))
      have q1 := ltimes_q n s x z.2 (10 ^ 45) (10 ^ 15) bx (v2 _ hz'.2) (le_bg (by decide +kernel))
      have q2 := lplus_q n s z.1 (pmul x z.2) P ((10 ^ 15) * (10 ^ 45)) (ha _ hz'.1) m2 t1
      simp [q1, q2, pmul_comm z.2 x]
    have e4 : (List.zip acc v.1).map (fun z => qd (padd z.1 (pmul z.2 x))) = (List.zipWith padd acc (v.1.map fun y => pmul y x)).map qd := by
      rw [List.zip, List.map_zipWith, List.zipWith_map_right, List.map_zipWith]
    rw [List.nil_append, e4] at lc
    have q3 := ltimes_q n s x v.2 (10 ^ 45) (10 ^ 15) bx v3 (le_bg (by decide +kernel))
    have q4 := lplus_q n s bd (pmul x v.2) P ((10 ^ 15) * (10 ^ 45)) hbd bmv t1
    rw [x_gTp 2 _ _ (show [wd v, qd x].length = 2 from rfl)]
    simp only [x_gCons, x_gNil]
    rw [show wd v = .tup [rd v.1, qd v.2] from rfl, x_gTp 2 _ _ (show [rd v.1, qd v.2].length = 2 from rfl)]
    simp only [x_gCons, x_gNil, x_gNm, R.bd_ok, List.set, x_seq, x_asg, x_lc, x_zp, x_cons, x_nil, x_varS, x_var0, zp_lt, lc, n_f, x_call, List.map_cons (f := Src.get _), List.map_nil, g_at0, g_atS, q3, q4]
    exact ih
def qsD : D → List Q
  | .tup ds => ds.filterMap fun x => match x with
    | .tup [.int a, .int b] => some (a, b)
    | _ => none
  | _ => []
theorem qsD_rd (r : List Q) : qsD (rd r) = r := by
  show (r.map qd).filterMap _ = r
  induction r with
  | nil => rfl
  | cons p r ih =>
    rw [List.map_cons, List.filterMap_cons_some (b := p) (by rfl), ih]
def okWt (k : Nat) (t : D) : Bool := isRow k t && (qsD t).all fun p => decide (0 ≤ p.1)
theorem nn_lc (n : Nat) (qs : List Q) (e0 e1 : Option D) (s : Sto) : lcL [2] (gNm 2) mYes (mOp2 (opCmp fun i j => decide (j ≤ i)) (mOp2 opIx (mVar 2) (mCst (.int 0))) (mCst (.int 0))) none (qs.map qd) [e0, e1, none] (qs.map qd) s [] = .ok ([] ++ qs.map fun p => .bl (decide (0 ≤ p.1))) s :=
  lc_mapA qs [] fun p _ => ⟨_, rfl, by simp [qd]⟩
def judge (m : Nat) (ws : List W) (row : List Q) (bd : Q) : D → Bool
  | .tup [.str kd, t] => okWt ws.length t && (if kd = "bound" then decide (made m ws (qsD t) = row) && ple (reach ws (qsD t)) bd else if kd = "void" then decide (made m ws (qsD t) = List.replicate m (0, 1)) && decide ((reach ws (qsD t)).1 < 0) else false)
  | _ => false
theorem judge_b {m : Nat} {ws : List W} {row : List Q} {bd : Q} {qs : List Q} (ew : okWt ws.length (rd qs) = true) : judge m ws row bd (.tup [.str "bound", rd qs]) = (decide (made m ws qs = row) && ple (reach ws qs) bd) := by
  show (okWt ws.length (rd qs) && (if ("bound" : Str) = "bound" then decide (made m ws (qsD (rd qs)) = row) && ple (reach ws (qsD (rd qs))) bd else _)) = _
  rw [ew, if_pos rfl, qsD_rd, Bool.true_and]
theorem judge_v {m : Nat} {ws : List W} {row : List Q} {bd : Q} {qs : List Q} (ew : okWt ws.length (rd qs) = true) : judge m ws row bd (.tup [.str "void", rd qs]) = (decide (made m ws qs = List.replicate m (0, 1)) && decide ((reach ws qs).1 < 0)) := by
  show (okWt ws.length (rd qs) && (if ("void" : Str) = "bound" then decide (made m ws (qsD (rd qs)) = row) && ple (reach ws (qsD (rd qs))) bd else if ("void" : Str) = "void" then decide (made m ws (qsD (rd qs)) = List.replicate m (0, 1)) && decide ((reach ws (qsD (rd qs))).1 < 0) else false)) = _
  rw [ew, if_neg (by decide), if_pos rfl, qsD_rd, Bool.true_and]
theorem wts_inv {k : Nat} {t : D} (h : okWt k t = true) (hp : pl 10000 ((10 ^ 45 : Nat) : Int) t) : ∃ qs, t = rd qs ∧ qs.length = k ∧ ∀ x ∈ qs, bq (10 ^ 45) x := by
  unfold okWt at h
  rw [Bool.and_eq_true] at h
  obtain ⟨qs, rfl, hl, hg⟩ := isRow_inv h.1
  exact ⟨qs, rfl, by omega, fun x hx => pl_bq ((pl_tup.mp hp).2 _ (List.mem_map.mpr ⟨x, hx, rfl⟩)) (hg x hx).1⟩
theorem in_q (kd : Str) (s : Sto) : opIn true (.str kd) (.tup [.str "bound", .str "void"]) s = .ok (.bl (!(decide (kd = "bound") || decide (kd = "void")))) s := by
  have e : inF (.str kd) [.str "bound", .str "void"] = (decide (kd = "bound") || decide (kd = "void")) := by
    have b : ∀ y : Str, eqF (.str y) (.str kd) = decide (kd = y) := fun y => by
      show (y == kd) = _
      by_cases h : kd = y
      · subst h; simp
      · have h2 : ¬ y = kd := fun e => h e.symm
        simp [h, h2]
    simp [inF, b]
  show R.ok (D.bl (!inF (.str kd) [.str "bound", .str "void"])) s = _
  rw [e]
theorem in_b (s : Sto) : opIn true (.str "bound") (.tup [.str "bound", .str "void"]) s = .ok (.bl false) s := by
  rw [in_q, decide_eq_true rfl]
  rfl
theorem in_v (s : Sto) : opIn true (.str "void") (.tup [.str "bound", .str "void"]) s = .ok (.bl false) s := by
  rw [in_q, decide_eq_true (rfl : ("void" : Str) = "void"), Bool.or_true]
  rfl
theorem zeros_q (m : Nat) (hm : m ≤ 1000) (s : Sto) : opMul false (.tup [.tup [.int 0, .int 1]]) (.int m) s = .ok (rd (List.replicate m (0, 1))) s := by
  have o := opMul_rep (s := s) (qd (0, 1)) m hm
  have e : qd (0, 1) = .tup [.int 0, .int 1] := rfl
  rw [e] at o
  rw [o, rd, List.map_replicate]
  rfl
end K03
set_option maxHeartbeats 400000
set_option exponentiation.threshold 9000
namespace K03
open PySem PySem.Spec L2 Rf
/-! ### the program's arithmetic, upon rationals -/
theorem div_q (n : Nat) (s : Sto) (i j : Int) : Fx (n + 1) 14 [.int i, .int j] s = .ok (.int ((Nat.gcd i.natAbs j.natAbs : Nat) : Int)) s := by
  rw [c14]
  simp [runB, m_divisor_of]
theorem ratio_n (n : Nat) (s : Sto) (a b : Int) (hb : b < 0) (hb2 : b.natAbs ≤ BG) : Fx (n + 2) 20 [.int a, .int b] s = .ok (qd (qn (-a) (-b))) s := by
  have hg : 0 < Nat.gcd a.natAbs b.natAbs := Nat.gcd_pos_of_pos_right _ (by omega)
  have hg2 : Nat.gcd a.natAbs b.natAbs ≤ b.natAbs := Nat.gcd_le_right _ (by omega)
  have hn : ¬ 0 < b := by omega
  have d1 : opDiv (.int a) (.int (-((Nat.gcd a.natAbs b.natAbs : Nat) : Int))) s = .ok (.int ((-a) / ((Nat.gcd a.natAbs b.natAbs : Nat) : Int))) s := o_divN _ _ (by omega) (by omega)
  have d2 : opDiv (.int b) (.int (-((Nat.gcd a.natAbs b.natAbs : Nat) : Int))) s = .ok (.int ((-b) / ((Nat.gcd a.natAbs b.natAbs : Nat) : Int))) s := o_divN _ _ (by omega) (by omega)
  rw [c20]
  simp [runB, m_ratio, div_q, hn, d1, d2, qd, qn]
theorem bz_pos {A : Nat} {x : Rat} (h : bz A x) : 1 ≤ A := Nat.le_trans x.den_pos h.2
theorem two_b {A B M : Nat} {x y : Rat} (hx : bz A x) (hy : bz B y) (h : A * B ≤ M) : A ≤ M ∧ B ≤ M :=
  ⟨Nat.le_trans (Nat.le_mul_of_pos_right A (bz_pos hy)) h, Nat.le_trans (Nat.le_mul_of_pos_left B (bz_pos hx)) h⟩
section
variable (n : Nat) (s : Sto) {x y : Rat} {A B : Nat}
theorem times_r (hx : bz A x) (hy : bz B y) (h : A * B ≤ BG) : Fx (n + 3) 21 [rq x, rq y] s = .ok (rq (x * y)) s := by
  unfold rq
  rw [times_q n s _ _ A B (bz_bq.mp hx) (bz_bq.mp hy) h, nq_mul]
theorem plus_r (hx : bz A x) (hy : bz B y) (h : 2 * (A * B) ≤ BG) : Fx (n + 3) 50 [rq x, rq y] s = .ok (rq (x + y)) s := by
  unfold rq
  rw [plus_q n s _ _ A B (bz_bq.mp hx) (bz_bq.mp hy) h, nq_add]
theorem minus_r (hx : bz A x) (hy : bz B y) (h : 2 * (A * B) ≤ BG) : Fx (n + 3) 25 [rq x, rq y] s = .ok (rq (x - y)) s := by
  obtain ⟨hA, hB⟩ := two_b hx hy (show A * B ≤ BG by omega)
  obtain ⟨h1, h2, h3, h4, h5⟩ := mul_b (bz_bq.mp hx) (bz_bq.mp hy)
  have x1 := hx.1
  have x2 := hx.2
  have y1 := hy.1
  have y2 := hy.2
  have xp := den_p x
  have yp := den_p y
  have r := ratio_q n s (x.num * (y.den : Int) - y.num * (x.den : Int)) ((x.den : Int) * (y.den : Int)) h5 (by have := h2; simp only [nq] at this; omega)
  rw [nq_sub] at r
  rw [c25]
  simp (disch := first | omega | (simp; done) | (simp; omega)) [runB, o_mulW, m_minus, r]
  rfl
theorem over_r (hx : bz A x) (hy : bz B y) (h0 : y ≠ 0) (h : A * B ≤ BG) : Fx (n + 3) 28 [rq x, rq y] s = .ok (rq (x / y)) s := by
  obtain ⟨hA, hB⟩ := two_b hx hy h
  obtain ⟨h1, h2, h3, h4, h5⟩ := mul_b (bz_bq.mp hx) (bz_bq.mp hy)
  have x1 := hx.1
  have x2 := hx.2
  have y1 := hy.1
  have y2 := hy.2
  have xp := den_p x
  have yp := den_p y
  have h4' : ((x.den : Int) * y.num).natAbs ≤ BG := by
    have : ((nq y).1 * (nq x).2).natAbs ≤ A * B := h4
    simp only [nq] at this
    rw [Int.mul_comm]
    omega
  have hn : y.num ≠ 0 := fun z => h0 (num_z.mp z)
  have r : Fx (n + 2) 20 [.int (x.num * (y.den : Int)), .int ((x.den : Int) * y.num)] s = .ok (rq (x / y)) s := by
    rcases Int.lt_or_gt_of_ne hn with q | q
    · have hneg : (x.den : Int) * y.num < 0 := Int.mul_neg_of_pos_of_neg xp q
      rw [ratio_n n s _ _ hneg h4', nq_overN q]
      rfl
    · rw [ratio_q n s _ _ (Int.mul_pos xp q) h4', nq_overP q]
      rfl
  rw [c28]
  simp (disch := first | omega | (simp; done) | (simp; omega)) [runB, o_mulW, m_over, r]
theorem below_r (hx : bz A x) (hy : bz B y) (hA : A ≤ BG) (hB : B ≤ BG) : Fx (n + 1) 30 [rq x, rq y] s = .ok (.bl (decide (x < y))) s := by
  have x1 := hx.1
  have x2 := hx.2
  have y1 := hy.1
  have y2 := hy.2
  rw [c30]
  have e : (x.num * (y.den : Int) < y.num * (x.den : Int)) = (x < y) := propext (Rat.lt_iff x y).symm
  simp (disch := first | omega | (simp; done) | (simp; omega)) [runB, o_mulW, m_is_below, e]
/-- a row, multiplied -/
theorem scaled_r {k : Nat} {f : Nat → Rat} (hf : ∀ j, j < k → bz A (f j)) (hy : bz B y) (h : A * B ≤ BG) : Fx (n + 4) 27 [.tup (rl k f), rq y] s = .ok (.tup (rl k fun j => f j * y)) s := by
  rw [c27]
  have l : lcL [2] (gNm 2) mYes (mCall (Fx (n + 3)) 21 [.at 0, .at 1] (mCons (mVar 2) (mCons (mVar 1) mNil))) none (rl k f) [some (.tup (rl k f)), some (rq y), none] (rl k f) s [] = .ok ([] ++ (List.range k).map fun j => rq (f j * y)) s :=
    lc_mapA (h := fun j => rq (f j)) (List.range k) [] fun j hj => ⟨_, rfl, by simp [times_r n s (hf j (List.mem_range.mp hj)) hy h]⟩
  simp [runB, m_scaled, l]
  rfl
theorem noughts_r (k : Nat) (hk : k ≤ 1000) : Fx (n + 1) 22 [.int k] s = .ok (.tup (rl k fun _ => 0)) s := by
  rw [noughts_q n k s hk]
  congr 2
  unfold rl
  rw [List.map_const', List.length_range, List.map_replicate]
  rfl
end
end K03
set_option maxHeartbeats 400000
set_option exponentiation.threshold 9000
namespace K03
open PySem PySem.Spec L2 Rf Lp
/-! ### the boards of the program -/
def Pg (C A k : Nat) : Nat := C * (2 * (C * A)) ^ k
theorem Pg_s (C A k : Nat) : Pg C A (k + 1) = 2 * (Pg C A k * (C * A)) := by
  unfold Pg
  rw [Nat.pow_succ]
  generalize (2 * (C * A)) ^ k = E
  ac_rfl
theorem Pg_le {C A : Nat} (hC : 1 ≤ C) (hA : 1 ≤ A) {k m : Nat} (h : k ≤ m) : Pg C A k ≤ Pg C A m := by
  unfold Pg
  exact Nat.mul_le_mul_left _ (Nat.pow_le_pow_right (by have := Nat.mul_pos hC hA; omega) h)
structure Bnd (A C m N : Nat) (T : Bd) (cost : Nat → Rat) : Prop where
  t : ∀ i, i < m → ∀ j, j ≤ N → bz A (T i j)
  c : ∀ j, j < N → bz C (cost j)
  a1 : 1 ≤ A
  c1 : 1 ≤ C
  g : Pg C A m ≤ BG
  f : 2 * (A * (A * (A * A))) ≤ BG
theorem Bnd.aa {A C m N : Nat} {T : Bd} {cost : Nat → Rat} (h : Bnd A C m N T cost) : A ≤ BG ∧ A * A ≤ BG ∧ A * (A * A) ≤ BG := by
  have h1 : A ≤ A * A := Nat.le_mul_of_pos_left _ h.a1
  have h2 : A * A ≤ A * (A * A) := Nat.le_mul_of_pos_left _ h.a1
  have h3 : A * (A * A) ≤ A * (A * (A * A)) := Nat.le_mul_of_pos_left _ h.a1
  have h4 := h.f
  omega
def gk (cost : Nat → Rat) (T : Bd) (β : Nat → Nat) (k j : Nat) : Rat := cost j - sm k (fun i => cost (β i) * T i j)
theorem gk_s (cost : Nat → Rat) (T : Bd) (β : Nat → Nat) (k j : Nat) : gk cost T β (k + 1) j = gk cost T β k j - cost (β k) * T k j := by
  unfold gk
  simp only [sm]
  grind
theorem gk_b {A C m N : Nat} {T : Bd} {cost : Nat → Rat} {β : Nat → Nat} (h : Bnd A C m N T cost) (hβ : ∀ i, i < m → β i < N) {j : Nat} (hj : j < N) : ∀ k, k ≤ m → bz (Pg C A k) (gk cost T β k j)
  | 0, _ => by
    have e : gk cost T β 0 j = cost j := by unfold gk; simp only [sm]; grind
    rw [e]
    exact bz_mono (by unfold Pg; simp) (h.c j hj)
  | k + 1, hk => by
    rw [gk_s, Pg_s]
    exact bz_sub (gk_b h hβ hj k (by omega)) (bz_mul (h.c _ (hβ k (by omega))) (h.t k (by omega) j (by omega)))
theorem gaps_q (n : Nat) (s : Sto) {A C m N b : Nat} {T : Bd} {cost : Nat → Rat} {β : Nat → Nat} (h : Bnd A C m N T cost) (hβ : ∀ i, i < m → β i < N) (hb : s[b]? = some (.lst (bdl m N T))) :
    Fx (n + 4) 26 [.ref b, .lst (bsl m β), .tup (rl N cost)] s = .ok (.lst (rl N (gp m cost T β))) s := by
  rw [c26]
  refine wp_eq ?_
  have ez : zip2D (bdl m N T) (bsl m β) = (List.range m).map fun i => .tup [.tup (rl (N + 1) (T i)), .int (β i : Nat)] := by
    unfold bdl bsl
    rw [zip_rg, Nat.min_self]
  have main := fun z4 z5 => for_atG (g := gTp 2 (gCons (gNm 4) (gCons (gNm 5) gNil)))
    (b := mIfS (mTest (mOp2 (opEq true) (mOp2 opIx (mOp2 opIx (mVar 2) (mVar 5)) (mCst (.int 0))) (mCst (.int 0))))
    (mAsg (gNm 3) (mLc false [6, 7] (gTp 2 (gCons (gNm 6) (gCons (gNm 7) gNil))) mYes (mCall (Fx (n + 3)) 25 [.at 0, .at 1] (mCons (mVar 6) (mCons (mCall (Fx (n + 3)) 21 [.at 0, .at 1] (mCons (mOp2 opIx (mVar 2) (mVar 5)) (mCons (mVar 7) mNil))) mNil))) (mZp (mCons (mVar 3) (mCons (mVar 4) mNil)))))
    mPass) (o := some (.many [(b, bdl m N T)])) (all := zip2D (bdl m N T) (bsl m β))
    (fun k env st => st = s ∧ ∃ z4 z5, env = [some (.ref b), some (.lst (bsl m β)), some (.tup (rl N cost)), some (.lst (rl N (gk cost T β k))), z4, z5, none, none])
    (Q := fun f st => st = s ∧ ∃ z4 z5, f = .nx [some (.ref b), some (.lst (bsl m β)), some (.tup (rl N cost)), some (.lst (rl N (gk cost T β m))), z4, z5, none, none])
    (fun k env st hI => by rw [hI.1]; exact gst_bdl hb) ((List.range m).map fun i => .tup [.tup (rl (N + 1) (T i)), .int (β i : Nat)]) 0
    [some (.ref b), some (.lst (bsl m β)), some (.tup (rl N cost)), some (.lst (rl N cost)), z4, z5, none, none] s
    (by
      rintro k d env st hd ⟨rfl, z4, z5, rfl⟩
      rw [Nat.zero_add]
      rw [List.getElem?_map] at hd
      have hk : k < m := by
        cases e : (List.range m)[k]? with
        | none => rw [e] at hd; cases hd
        | some i => have := (List.getElem?_eq_some_iff.mp e).1; simpa using this
      rw [List.getElem?_range hk] at hd
      cases hd
      have hbk := hβ k hk
      have ic := ix_rlT (s := st) (f := cost) hbk
      by_cases z : cost (β k) = 0
      · have e : rl N (gk cost T β (k + 1)) = rl N (gk cost T β k) := rl_congr fun j _ => by rw [gk_s, z]; grind
        have z' : (cost (β k)).num = 0 := num_z.mpr z
        simp [ic, z', e]
      · have z' : ¬ (cost (β k)).num = 0 := fun q => z (num_z.mp q)
        have ez2 : zip2D (rl N (gk cost T β k)) (rl (N + 1) (T k)) = (List.range N).map fun j => .tup [rq (gk cost T β k j), rq (T k j)] := by
          unfold rl
          rw [zip_rg, Nat.min_eq_left (by omega)]
        have l : lcL [6, 7] (gTp 2 (gCons (gNm 6) (gCons (gNm 7) gNil))) mYes (mCall (Fx (n + 3)) 25 [.at 0, .at 1] (mCons (mVar 6) (mCons (mCall (Fx (n + 3)) 21 [.at 0, .at 1] (mCons (mOp2 opIx (mVar 2) (mVar 5)) (mCons (mVar 7) mNil))) mNil))) none ((List.range N).map fun j => .tup [rq (gk cost T β k j), rq (T k j)])
            [some (.ref b), some (.lst (bsl m β)), some (.tup (rl N cost)), some (.lst (rl N (gk cost T β k))), some (.tup (rl (N + 1) (T k))), some (.int (β k : Nat)), none, none] ((List.range N).map fun j => .tup [rq (gk cost T β k j), rq (T k j)]) st [] = .ok ([] ++ (List.range N).map fun j => rq (gk cost T β (k + 1) j)) st :=
          lc_mapA (h := fun j => .tup [rq (gk cost T β k j), rq (T k j)]) (List.range N) [] fun j hj => by
            have hj' := List.mem_range.mp hj
            have b1 := h.c _ hbk
            have b2 := h.t k hk j (by omega)
            have b3 := gk_b h hβ hj' k (by omega)
            have p1 := Pg_le h.c1 h.a1 (show k + 1 ≤ m by omega)
            rw [Pg_s] at p1
            have hg := h.g
            have ca : C * A ≤ BG := by
              have := Nat.le_mul_of_pos_left (C * A) (bz_pos b3)
              omega
            have q1 := times_r n st b1 b2 ca
            have q2 := minus_r n st b3 (bz_mul b1 b2) (by omega)
            rw [← gk_s] at q2
            exact ⟨_, rfl, by simp [ic, q1, q2]⟩
        rw [← ez2] at l
        simp [ic, z', l]
        rfl)
    (by
      rintro env st ⟨rfl, z4, z5, rfl⟩
      rw [List.length_map, List.length_range, Nat.zero_add]
      exact ⟨rfl, z4, z5, rfl⟩)
    (by
      refine ⟨rfl, z4, z5, ?_⟩
      have e : rl N (gk cost T β 0) = rl N cost := rl_congr fun j _ => by unfold gk; simp only [sm]; grind
      rw [e])
  rw [← ez] at main
  have ll : opLstOf false (.tup (rl N cost)) s = .ok (.lst (rl N cost)) s := rfl
  simp [runB, m_gaps, ll, zp_bdl hb]
  refine R.wp_mono (main none none) fun f s' hh => ?_
  obtain ⟨rfl, z4, z5, rfl⟩ := hh
  simp
  rfl
end K03
set_option maxHeartbeats 400000
set_option exponentiation.threshold 9000
namespace K03
open PySem PySem.Spec L2 Rf Lp
/-! ### a list, empty or not -/
theorem eqL_nil {s : Sto} (neg : Bool) {ds : List D} (h : ∃ ps, toPs ds = some ps ∧ PyData.canLayAll0 ps = true ∧ ps.length = ds.length) : opEq neg (.lst ds) (.lst []) s = .ok (.bl (if neg then !ds.isEmpty else ds.isEmpty)) s := by
  obtain ⟨ps, e3, e4, e5⟩ := h
  have e : toPd (.lst ds) s = some (.list ps) := by
    show toP (.lst ds) = _
    simp [toP, e3]
  have e2 : toPd (.lst []) s = some (.list []) := by simp [toPd, toP, toPs]
  show (match toPd (.lst ds) s, toPd (.lst []) s with | some p, some q => (if p.canLay0 && q.canLay0 && decide (min p.depth q.depth ≤ 64) then R.ok (D.bl (if neg then !PyData.eqv p q else PyData.eqv p q)) s else .bad) | _, _ => .bad) = _
  rw [e, e2]
  show (if (PyData.list ps).canLay0 && (PyData.list []).canLay0 && decide (min (PyData.list ps).depth (PyData.list []).depth ≤ 64) then R.ok (D.bl (if neg then !PyData.eqv (.list ps) (.list []) else PyData.eqv (.list ps) (.list []))) s else .bad) = _
  rw [if_pos]
  · have q : PyData.eqv (.list ps) (.list []) = ds.isEmpty := by
      cases ps with
      | nil => cases ds with
        | nil => simp [PyData.eqv, PyData.eqvAll]
        | cons => simp at e5
      | cons => cases ds with
        | nil => simp at e5
        | cons => simp [PyData.eqv, PyData.eqvAll]
    rw [q]
  · have : (PyData.list []).depth ≤ 64 := by simp [PyData.depth, PyData.depthAll]
    simp [PyData.canLay0, PyData.canLayAll0, e4]
    omega
theorem toPs_ints : ∀ l : List Nat, ∃ ps, toPs (l.map fun i => D.int (i : Nat)) = some ps ∧ PyData.canLayAll0 ps = true ∧ ps.length = (l.map fun i => D.int (i : Nat)).length
  | [] => ⟨[], by simp [toPs], by simp [PyData.canLayAll0], rfl⟩
  | i :: l => by
    obtain ⟨ps, h1, h2, h3⟩ := toPs_ints l
    exact ⟨.int i :: ps, by simp [toPs, toP, h1], by simp [PyData.canLayAll0, PyData.canLay0, h2], by simpa using h3⟩
theorem toPs_key (x : Rat) (i : Int) : ∃ ps, toPs [rq x, .int i] = some ps ∧ PyData.canLayAll0 ps = true ∧ ps.length = [rq x, D.int i].length :=
  ⟨[qp (nq x), .int i], by simp [toPs, toP, rq, qd, qp, nq], by simp [PyData.canLayAll0, PyData.canLay0, qp], rfl⟩
theorem ixl0 {s : Sto} (a : D) (r : List D) : opIx (.lst (a :: r)) (.int 0) s = .ok a s := by
  rw [o_ixL _ _ (by omega) (by simp)]
  rfl
theorem ixl1 {s : Sto} (a b : D) (r : List D) : opIx (.lst (a :: b :: r)) (.int 1) s = .ok b s := by
  rw [o_ixL _ _ (by omega) (by simp; omega)]
  rfl
/-! ### turning about -/
def prow (T : Bd) (N r c k : Nat) : D := .tup (rl (N + 1) (piv T r c k))
theorem turned_about_q (n : Nat) (s : Sto) {A C m N b r c : Nat} {T : Bd} {cost : Nat → Rat} (h : Bnd A C m N T cost) (hb : s[b]? = some (.lst (bdl m N T))) (hr : r < m) (hc : c ≤ N) (hp : T r c ≠ 0) (hm : m ≤ 1000) :
    (Fx (n + 5) 29 [.ref b, .int r, .int c]) s = .ok (.ref s.length) (s ++ [.lst (bdl m N (piv T r c))]) := by
  rw [c29]
  have hbl := (List.getElem?_eq_some_iff.mp hb).1
  obtain ⟨A1, A2, A3⟩ := h.aa
  have prc := h.t r hr c hc
  have ov := over_r (n + 1) s (x := 1) (y := T r c) (A := 1) (B := A) ⟨by decide, by decide⟩ prc hp (by omega)
  have ov' : Fx (n + 4) 28 [.tup [.int 1, .int 1], rq (T r c)] s = .ok (rq (1 / T r c)) s := ov
  have bov := bz_inv prc hp
  have sc := scaled_r n s (k := N + 1) (f := T r) (fun j hj => h.t r hr j (by omega)) bov A2
  have er : rl (N + 1) (fun j => T r j * (1 / T r c)) = rl (N + 1) (piv T r c r) := rl_congr fun j _ => by rw [piv_r]; grind
  rw [er] at sc
  have bl : ∀ j, j ≤ N → bz (A * A) (piv T r c r j) := fun j hj => by
    rw [piv_r, show T r j / T r c = T r j * (1 / T r c) by grind]
    exact bz_mul (h.t r hr j hj) bov
  have ib := ix_bdl hb hr
  have ic := ix_rlT (s := s) (f := T r) (show c < N + 1 by omega)
  refine wp_eq2 ?_
  have main := fun z5 z6 => for_atG (g := gTp 2 (gCons (gNm 5) (gCons (gNm 6) gNil)))
    (b := mIfS (mTest (mOp2 (opEq false) (mVar 5) (mVar 1)))
    (mExp (mMt opApp (mVar 4) (mVar 3)))
    (mIfS (mTest (mOp2 (opEq false) (mOp2 opIx (mOp2 opIx (mVar 6) (mVar 2)) (mCst (.int 0))) (mCst (.int 0))))
    (mExp (mMt opApp (mVar 4) (mVar 6)))
    (mExp (mMt opApp (mVar 4) (mOpN (un1 opTupOf) (mCons (mLc false [7, 8] (gTp 2 (gCons (gNm 7) (gCons (gNm 8) gNil))) mYes (mCall (Fx (n + 4)) 25 [.at 0, .at 1] (mCons (mVar 7) (mCons (mCall (Fx (n + 4)) 21 [.at 0, .at 1] (mCons (mOp2 opIx (mVar 6) (mVar 2)) (mCons (mVar 8) mNil))) mNil))) (mZp (mCons (mVar 6) (mCons (mVar 3) mNil)))) mNil))))))
    (o := some (.many [(b, bdl m N T)])) (all := (List.range m).map fun i => .tup [.int (i : Nat), .tup (rl (N + 1) (T i))])
    (fun k env st => st = s ++ [.lst ((List.range k).map (prow T N r c))] ∧ ∃ z5 z6, env = [some (.ref b), some (.int r), some (.int c), some (.tup (rl (N + 1) (piv T r c r))), some (.ref s.length), z5, z6, none, none])
    (Q := fun f st => st = s ++ [.lst (bdl m N (piv T r c))] ∧ ∃ z5 z6, f = .nx [some (.ref b), some (.int r), some (.int c), some (.tup (rl (N + 1) (piv T r c r))), some (.ref s.length), z5, z6, none, none])
    (fun k env st hI => by
      rw [hI.1]
      exact gst_bdl (by rw [List.getElem?_append_left hbl]; exact hb)) ((List.range m).map fun i => .tup [.int (i : Nat), .tup (rl (N + 1) (T i))]) 0
    [some (.ref b), some (.int r), some (.int c), some (.tup (rl (N + 1) (piv T r c r))), some (.ref s.length), z5, z6, none, none] (s ++ [.lst []])
    (by
      rintro k d env st hd ⟨rfl, z5, z6, rfl⟩
      rw [Nat.zero_add]
      rw [List.getElem?_map] at hd
      have hk : k < m := by
        cases e : (List.range m)[k]? with
        | none => rw [e] at hd; cases hd
        | some i => have := (List.getElem?_eq_some_iff.mp e).1; simpa using this
      rw [List.getElem?_range hk] at hd
      cases hd
      have al := app_lst s ((List.range k).map (prow T N r c))
      have aa := fun y => app_app s ((List.range k).map (prow T N r c)) y (by simp; omega)
      have snoc : (List.range (k + 1)).map (prow T N r c) = (List.range k).map (prow T N r c) ++ [prow T N r c k] := by
        rw [List.range_succ, List.map_append]; rfl
      by_cases q : k = r
      · subst q
        simp [al, aa, snoc]
        rfl
      · have q' : ¬ ((k : Int) = (r : Int)) := by omega
        have ick := fun s => ix_rlT (s := s) (f := T k) (show c < N + 1 by omega)
        by_cases z : T k c = 0
        · have z' : (T k c).num = 0 := num_z.mpr z
          have e : prow T N r c k = .tup (rl (N + 1) (T k)) := by
            have e1 : rl (N + 1) (piv T r c k) = rl (N + 1) (T k) := rl_congr fun j _ => by rw [piv_o q, z]; grind
            exact congrArg D.tup e1
          simp [q', ick, z', al, aa, snoc, e]
        · have z' : ¬ (T k c).num = 0 := fun w => z (num_z.mp w)
          have ez2 : zip2D (rl (N + 1) (T k)) (rl (N + 1) (piv T r c r)) = (List.range (N + 1)).map fun j => .tup [rq (T k j), rq (piv T r c r j)] := by
            unfold rl
            rw [zip_rg, Nat.min_self]
          have l : lcL [7, 8] (gTp 2 (gCons (gNm 7) (gCons (gNm 8) gNil))) mYes (mCall (Fx (n + 4)) 25 [.at 0, .at 1] (mCons (mVar 7) (mCons (mCall (Fx (n + 4)) 21 [.at 0, .at 1] (mCons (mOp2 opIx (mVar 6) (mVar 2)) (mCons (mVar 8) mNil))) mNil))) none ((List.range (N + 1)).map fun j => .tup [rq (T k j), rq (piv T r c r j)])
              [some (.ref b), some (.int r), some (.int c), some (.tup (rl (N + 1) (piv T r c r))), some (.ref s.length), some (.int k), some (.tup (rl (N + 1) (T k))), none, none] ((List.range (N + 1)).map fun j => .tup [rq (T k j), rq (piv T r c r j)]) (s ++ [.lst ((List.range k).map (prow T N r c))]) [] = .ok ([] ++ (List.range (N + 1)).map fun j => rq (piv T r c k j)) (s ++ [.lst ((List.range k).map (prow T N r c))]) :=
            lc_mapA (h := fun j => .tup [rq (T k j), rq (piv T r c r j)]) (List.range (N + 1)) [] fun j hj => by
              have hj' : j ≤ N := by have := List.mem_range.mp hj; omega
              have b1 := h.t k hk c hc
              have b2 := h.t k hk j hj'
              have b3 := bl j hj'
              have q1 := times_r (n + 1) (s ++ [.lst ((List.range k).map (prow T N r c))]) b1 b3 A3
              have q2 := minus_r (n + 1) (s ++ [.lst ((List.range k).map (prow T N r c))]) b2 (bz_mul b1 b3) h.f
              have e : T k j - T k c * piv T r c r j = piv T r c k j := by rw [piv_r, piv_o q]
              rw [e] at q2
              exact ⟨_, rfl, by simp [ick, q1, q2]⟩
          rw [← ez2] at l
          simp [q', ick, z', al, aa, snoc, l]
          rfl)
    (by
      rintro env st ⟨rfl, z5, z6, rfl⟩
      rw [List.length_map, List.length_range, Nat.zero_add]
      exact ⟨rfl, z5, z6, rfl⟩)
    ⟨rfl, z5, z6, rfl⟩
  have en : enD [.ref b] (s ++ [.lst []]) = some ((List.range m).map fun i => .tup [.int (i : Nat), .tup (rl (N + 1) (T i))], some (.many [(b, bdl m N T)])) := by
    rw [en_bdl (by rw [List.getElem?_append_left hbl]; exact hb)]
    unfold bdl
    rw [enum_rg]
  have nl : opLst true [] s = .ok (.ref s.length) (s ++ [.lst []]) := rfl
  simp [runB, m_turned_about, ib, ic, ov', sc, nl, en]
  refine R.wp_mono (main none none) fun f s' hh => ?_
  obtain ⟨rfl, z5, z6, rfl⟩ := hh
  simp
end K03
set_option maxHeartbeats 400000
set_option exponentiation.threshold 9000
namespace K03
open PySem PySem.Spec L2 Rf Lp
/-! ### which row leaves -/
def bet (N c : Nat) (T : Bd) (β : Nat → Nat) (k a : Nat) : Prop := T k N / T k c < T a N / T a c ∨ (T k N / T k c = T a N / T a c ∧ β k < β a)
instance (N c : Nat) (T : Bd) (β : Nat → Nat) (k a : Nat) : Decidable (bet N c T β k a) := by unfold bet; exact inferInstance
def lvR (N c : Nat) (T : Bd) (β : Nat → Nat) : Nat → Option Nat
  | 0 => none
  | k + 1 => if 0 < T k c then (match lvR N c T β k with
    | none => some k
    | some a => if bet N c T β k a then some k else some a) else lvR N c T β k
def LvOk (N c : Nat) (T : Bd) (β : Nat → Nat) (k : Nat) : Option Nat → Prop
  | none => ∀ i, i < k → ¬ 0 < T i c
  | some r => r < k ∧ 0 < T r c ∧ ∀ i, i < k → 0 < T i c → T r N / T r c ≤ T i N / T i c ∧ (T r N / T r c = T i N / T i c → β r ≤ β i)
theorem lv_ok (N c : Nat) (T : Bd) (β : Nat → Nat) : ∀ k, LvOk N c T β k (lvR N c T β k)
  | 0 => fun i hi => absurd hi (Nat.not_lt_zero i)
  | k + 1 => by
    have ih := lv_ok N c T β k
    unfold lvR
    by_cases h : 0 < T k c
    · rw [if_pos h]
      cases e : lvR N c T β k with
      | none =>
        rw [e] at ih
        refine ⟨Nat.lt_succ_self k, h, fun i hi hp => ?_⟩
        by_cases q : i = k
        · subst q; exact ⟨Rat.le_refl, fun _ => Nat.le_refl _⟩
        · exact absurd hp (ih i (by omega))
      | some a =>
        rw [e] at ih
        obtain ⟨h1, h2, h3⟩ := ih
        dsimp only
        by_cases b : bet N c T β k a
        · rw [if_pos b]
          refine ⟨Nat.lt_succ_self k, h, fun i hi hp => ?_⟩
          by_cases q : i = k
          · subst q; exact ⟨Rat.le_refl, fun _ => Nat.le_refl _⟩
          · obtain ⟨h4, h5⟩ := h3 i (by omega) hp
            rcases b with b | ⟨b1, b2⟩
            · exact ⟨by grind, fun z => by exfalso; grind⟩
            · exact ⟨by grind, fun z => by have := h5 (by grind); omega⟩
        · rw [if_neg b]
          refine ⟨by omega, h2, fun i hi hp => ?_⟩
          by_cases q : i = k
          · subst q
            unfold bet at b
            rw [not_or] at b
            refine ⟨by grind, fun z => ?_⟩
            apply Classical.byContradiction
            intro w
            exact b.2 ⟨z.symm, by omega⟩
          · exact h3 i (by omega) hp
    · rw [if_neg h]
      cases e : lvR N c T β k with
      | none =>
        rw [e] at ih
        intro i hi
        by_cases q : i = k
        · subst q; exact h
        · exact ih i (by omega)
      | some a =>
        rw [e] at ih
        obtain ⟨h1, h2, h3⟩ := ih
        refine ⟨by omega, h2, fun i hi hp => ?_⟩
        by_cases q : i = k
        · subst q; exact absurd hp h
        · exact h3 i (by omega) hp
def fdD (N c : Nat) (T : Bd) : Option Nat → D
  | none => .lst []
  | some a => .lst [rq (T a N / T a c), .int (a : Nat)]
def atD : Option Nat → D
  | none => .lst []
  | some a => .lst [.int (a : Nat)]
theorem leaving_q (n : Nat) (s : Sto) {A C m N b c : Nat} {T : Bd} {cost : Nat → Rat} {β : Nat → Nat} (h : Bnd A C m N T cost) (hb : s[b]? = some (.lst (bdl m N T))) (hc : c ≤ N) :
    Fx (n + 5) 31 [.ref b, .lst (bsl m β), .int c] s = .ok (atD (lvR N c T β m)) s := by
  rw [c31]
  refine wp_eq ?_
  obtain ⟨A1, A2, A3⟩ := h.aa
  have main := fun z4 z5 z6 => for_atG (g := gTp 2 (gCons (gNm 4) (gCons (gNm 5) gNil)))
    (b := mIfS (mTest (mOp2 (opCmp fun i j => decide (j < i)) (mOp2 opIx (mOp2 opIx (mVar 5) (mVar 2)) (mCst (.int 0))) (mCst (.int 0))))
    (mSeq (mAsg (gNm 6) (mCall (Fx (n + 4)) 28 [.at 0, .at 1] (mCons (mOp2 opIx (mVar 5) (mOp1 opNeg (mCst (.int 1)))) (mCons (mOp2 opIx (mVar 5) (mVar 2)) mNil))))
    (mIfS (mOrT (mTest (mOp2 (opEq false) (mVar 3) (mOpN (opLst false) mNil))) (mOrT (mTest (mCall (Fx (n + 4)) 30 [.at 0, .at 1] (mCons (mVar 6) (mCons (mOp2 opIx (mVar 3) (mCst (.int 0))) mNil)))) (mAndT (mTest (mOp2 (opEq false) (mVar 6) (mOp2 opIx (mVar 3) (mCst (.int 0))))) (mTest (mOp2 (opCmp fun i j => decide (i < j)) (mOp2 opIx (mVar 1) (mVar 4)) (mOp2 opIx (mVar 1) (mOp2 opIx (mVar 3) (mCst (.int 1)))))))))
    (mAsg (gNm 3) (mOpN (opLst false) (mCons (mVar 6) (mCons (mVar 4) mNil))))
    mPass))
    mPass)
    (o := some (.many [(b, bdl m N T)])) (all := (List.range m).map fun i => .tup [.int (i : Nat), .tup (rl (N + 1) (T i))])
    (fun k env st => st = s ∧ ∃ z4 z5 z6, env = [some (.ref b), some (.lst (bsl m β)), some (.int c), some (fdD N c T (lvR N c T β k)), z4, z5, z6])
    (Q := fun f st => st = s ∧ ∃ z4 z5 z6, f = .nx [some (.ref b), some (.lst (bsl m β)), some (.int c), some (fdD N c T (lvR N c T β m)), z4, z5, z6])
    (fun k env st hI => by
      rw [hI.1]
      exact gst_bdl hb) ((List.range m).map fun i => .tup [.int (i : Nat), .tup (rl (N + 1) (T i))]) 0
    [some (.ref b), some (.lst (bsl m β)), some (.int c), some (.lst []), z4, z5, z6] s
    (by
      rintro k d env st hd ⟨rfl, z4, z5, z6, rfl⟩
      rw [Nat.zero_add]
      rw [List.getElem?_map] at hd
      have hk : k < m := by
        cases e : (List.range m)[k]? with
        | none => rw [e] at hd; cases hd
        | some i => have := (List.getElem?_eq_some_iff.mp e).1; simpa using this
      rw [List.getElem?_range hk] at hd
      cases hd
      have ick := ix_rlT (s := st) (f := T k) (show c < N + 1 by omega)
      have il := ix_lastR (s := st) (N := N) (f := T k)
      have ok := lv_ok N c T β k
      by_cases z : 0 < T k c
      · have z' : 0 < (T k c).num := num_pos.mpr z
        have bk := h.t k hk c hc
        have bn := h.t k hk N (Nat.le_refl _)
        have z0 : T k c ≠ 0 := fun w => by rw [w] at z; exact absurd z (by decide)
        have ov := over_r (n + 1) st bn bk z0 A2
        have bo := bz_div bn bk z0
        have nn := eqL_nil (s := st) false (ds := []) ⟨[], by simp [toPs], by simp [PyData.canLayAll0], rfl⟩
        cases e : lvR N c T β k with
        | none =>
          have e1 : lvR N c T β (k + 1) = some k := by
            show (if 0 < T k c then _ else _) = _
            rw [if_pos z, e]
          simp [ick, il, z', ov, fdD, nn, e1]
        | some a =>
          rw [e] at ok
          obtain ⟨o1, o2, o3⟩ := ok
          have a0 : T a c ≠ 0 := fun w => by rw [w] at o2; exact absurd o2 (by decide)
          have ba := bz_div (h.t a (by omega) N (Nat.le_refl _)) (h.t a (by omega) c hc) a0
          have bl := below_r (n + 3) st bo ba A2 A2
          have ne := eqL_nil (s := st) false (toPs_key (T a N / T a c) (a : Int))
          have x0 := ixl0 (s := st) (rq (T a N / T a c)) [.int (a : Nat)]
          have x1 := ixl1 (s := st) (rq (T a N / T a c)) (.int (a : Nat)) []
          have eq := eq_rq (s := st) (T k N / T k c) (T a N / T a c)
          have bk' := ix_bsl (s := st) (β := β) hk
          have ba' := ix_bsl (s := st) (β := β) (show a < m by omega)
          have e1 : lvR N c T β (k + 1) = if bet N c T β k a then some k else some a := by
            show (if 0 < T k c then _ else _) = _
            rw [if_pos z, e]
          rw [e1]
          by_cases b1 : T k N / T k c < T a N / T a c
          · have bb : bet N c T β k a := .inl b1
            simp [ick, il, z', ov, fdD, ne, x0, bl, b1, bb]
          · by_cases b2 : T k N / T k c = T a N / T a c
            · by_cases b3 : β k < β a
              · have bb : bet N c T β k a := .inr ⟨b2, b3⟩
                rw [decide_eq_false b1] at bl
                rw [decide_eq_true b2] at eq
                simp [ick, il, z', ov, fdD, ne, x0, x1, bl, eq, bk', ba', b3, bb]
              · have bb : ¬ bet N c T β k a := by
                  rintro (w | ⟨_, w⟩)
                  · exact b1 w
                  · exact b3 w
                rw [decide_eq_false b1] at bl
                rw [decide_eq_true b2] at eq
                simp [ick, il, z', ov, fdD, ne, x0, x1, bl, eq, bk', ba', b3, bb]
            · have bb : ¬ bet N c T β k a := by
                rintro (w | ⟨w, _⟩)
                · exact b1 w
                · exact b2 w
              rw [decide_eq_false b1] at bl
              rw [decide_eq_false b2] at eq
              simp [ick, il, z', ov, fdD, ne, x0, x1, bl, eq, bb]
      · have z' : ¬ 0 < (T k c).num := fun w => z (num_pos.mp w)
        have e1 : lvR N c T β (k + 1) = lvR N c T β k := by
          show (if 0 < T k c then _ else _) = _
          rw [if_neg z]
        simp [ick, z', e1])
    (by
      rintro env st ⟨rfl, z4, z5, z6, rfl⟩
      rw [List.length_map, List.length_range, Nat.zero_add]
      exact ⟨rfl, z4, z5, z6, rfl⟩)
    ⟨rfl, z4, z5, z6, rfl⟩
  have en : enD [.ref b] s = some ((List.range m).map fun i => .tup [.int (i : Nat), .tup (rl (N + 1) (T i))], some (.many [(b, bdl m N T)])) := by
    rw [en_bdl hb]
    unfold bdl
    rw [enum_rg]
  have nl : opLst false [] s = .ok (.lst []) s := rfl
  simp [runB, m_leaving, nl, en]
  refine R.wp_mono (main none none none) fun f s' hh => ?_
  obtain ⟨rfl, z4, z5, z6, rfl⟩ := hh
  cases e : lvR N c T β m with
  | none =>
    have : cutD [] (some 1) none = [] := rfl
    simp [fdD, atD, this]
  | some a =>
    have : cutD [rq (T a N / T a c), .int (a : Nat)] (some 1) none = [.int (a : Nat)] := cut_from _ 1 (by simp)
    simp [fdD, atD, this]
end K03
set_option maxHeartbeats 400000
set_option exponentiation.threshold 9000
namespace K03
open PySem PySem.Spec L2 Rf Lp
/-! ### turn after turn -/
theorem first_of {n c : Nat} {p : Nat → Bool} {r : List Nat} (h : (List.range n).filter p = c :: r) : c < n ∧ p c = true ∧ ∀ j, j < c → p j = false := by
  have h1 : (List.range n).find? p = some c := by
    rw [← List.head?_filter, h]
    rfl
  rw [List.find?_range_eq_some] at h1
  obtain ⟨h2, h3, h4⟩ := h1
  exact ⟨List.mem_range.mp h3, h2, fun j hj => by simpa using h4 j hj⟩
theorem bsl_set (m r c : Nat) (β : Nat → Nat) (hr : r < m) : (bsl m β).take r ++ [D.int (c : Nat)] ++ (bsl m β).drop (r + 1) = bsl m (pvb β r c) := by
  have e1 : bsl m (pvb β r c) = (bsl m β).set r (.int (c : Nat)) := by
    apply List.ext_getElem?
    intro i
    rw [List.getElem?_set]
    unfold bsl
    rw [List.getElem?_map, List.getElem?_map]
    by_cases q : r = i
    · subst q
      rw [List.getElem?_range hr, if_pos rfl]
      simp [pvb, hr]
    · rw [if_neg q]
      have q' : ¬ i = r := fun z => q z.symm
      by_cases hi : i < m
      · rw [List.getElem?_range hi]
        simp [pvb, q']
      · rw [List.getElem?_eq_none_iff.mpr (by simp; omega : (List.range m).length ≤ i)]
        rfl
  rw [e1, List.set_eq_take_append_cons_drop, if_pos (by simpa using hr)]
  simp
theorem rg_eq (n : Nat) : rgI 0 (n : Int) = (List.range n).map fun i => .int (i : Nat) := by
  have := rgI_map n id
  simpa using this
/-- ahead of a turn -/
def DeI (m N many : Nat) (cost : Nat → Rat) (T0 : Bd) (β0 : Nat → Nat) (s : Sto) (k : Nat) (env : Ev) (st : Sto) : Prop := ∃ (L : Nat) (T : Bd) (β : Nat → Nat) (b : Nat) (z4 z5 z6 z7 : Option D), Run m N many cost T0 β0 L T β ∧ k = N ^ m - L ∧
  env = [some (.ref b), some (.lst (bsl m β)), some (.tup (rl N cost)), some (.int many), z4, z5, z6, z7] ∧ st[b]? = some (.lst (bdl m N T)) ∧ Gr s st
theorem descended_q (n : Nat) (s : Sto) {A C m N many b0 : Nat} {T0 : Bd} {cost : Nat → Rat} {β0 : Nat → Nat} (hm : m ≤ 1000) (hN : many ≤ N) (hN2 : N ≤ 1000) (hc0 : cost N = 0) (hb0 : s[b0]? = some (.lst (bdl m N T0)))
    (B0 : Bas m N T0 β0) (F0 : Fea m N T0) (hB : ∀ L T β, Run m N many cost T0 β0 L T β → Bnd A C m N T cost) (hL : N ^ m < 1000000)
    (hE : ∀ L T β, Run m N many cost T0 β0 L T β → ∀ c, c < many → gp m cost T β c < 0 → ∃ i, i < m ∧ 0 < T i c) :
    (Fx (n + 6) 32 [.ref b0, .lst (bsl m β0), .tup (rl N cost), .int many] s).wp fun d s' => ∃ (L : Nat) (T : Bd) (β : Nat → Nat) (b : Nat), Run m N many cost T0 β0 L T β ∧
      d = .tup [.ref b, .lst (bsl m β), .lst (rl N (gp m cost T β))] ∧ s'[b]? = some (.lst (bdl m N T)) ∧ Gr s s' ∧ ∀ j, j < many → 0 ≤ gp m cost T β j := by
  rw [c32]
  unfold runB m_descended
  rw [if_pos (show [D.ref b0, .lst (bsl m β0), .tup (rl N cost), .int many].length = 4 from rfl), wp_bd', x_whl]
  refine whl_wp (DeI m N many cost T0 β0 s) ?_ 1000000 (N ^ m) _ _ hL ⟨0, T0, β0, b0, none, none, none, none, .nil, by omega, rfl, hb0, .refl s⟩
  rintro k env st ⟨L, T, β, b, z4, z5, z6, z7, hr, rfl, rfl, hb, hg⟩
  have hbd := hB L T β hr
  obtain ⟨Bas1, Fea1, Eqv1⟩ := hr.inv hN B0 F0
  have ga := gaps_q (n + 1) st hbd (fun i hi => (Bas1 i hi).1) hb
  have hlt := hr.lt hN hc0 B0 F0
  have hl : lcL [7] (gNm 7) (mTest (mOp2 (opCmp fun i j => decide (i < j)) (mOp2 opIx (mOp2 opIx (mVar 4) (mVar 7)) (mCst (.int 0))) (mCst (.int 0)))) (mVar 7) none ((List.range many).map fun i => .int (i : Nat)) [some (.ref b), some (.lst (bsl m β)), some (.tup (rl N cost)), some (.int many), some (.lst (rl N (gp m cost T β))), z5, z6, z7] ((List.range many).map fun i => .int (i : Nat)) st []
      = .ok ([] ++ ((List.range many).filter fun c => decide (gp m cost T β c < 0)).map fun i => .int (i : Nat)) st :=
    lc_fl (fun c => decide (gp m cost T β c < 0)) (fun i => .int (i : Nat)) (fun i => .int (i : Nat)) rfl (List.range many) [] fun c hc => by
      have hc' := List.mem_range.mp hc
      have ic := ix_rlL (s := st) (f := gp m cost T β) (show c < N by omega)
      have en : ((gp m cost T β c).num < 0) = (gp m cost T β c < 0) := propext num_neg
      exact ⟨_, rfl, by simp [ic, en], fun _ => by simp⟩
  rw [← rg_eq] at hl
  have rb : rgB 0 (many : Int) = true := rgB_yes _ _ (by omega) (by omega) (by omega) (by omega) (by omega)
  have nlE : opLst false [] st = .ok (.lst []) st := rfl
  have hel := eqL_nil (s := st) true (toPs_ints ((List.range many).filter fun c => decide (gp m cost T β c < 0)))
  have nn := eqL_nil (s := st) false (ds := []) ⟨[], by simp [toPs], by simp [PyData.canLayAll0], rfl⟩
  cases eH : (List.range many).filter (fun c => decide (gp m cost T β c < 0)) with
  | nil =>
    rw [eH] at hl hel
    simp at hl hel
    have fin : ∀ j, j < many → 0 ≤ gp m cost T β j := fun j hj => by
      have : j ∉ (List.range many).filter (fun c => decide (gp m cost T β c < 0)) := by rw [eH]; exact nofun
      rw [List.mem_filter] at this
      simp at this
      have := this hj
      grind
    simp [ga, rb, hl, nlE, hel, nn]
    exact ⟨L, T, β, hr, b, ⟨rfl, rfl, rfl⟩, hb, hg, fin⟩
  | cons c H =>
    rw [eH] at hl hel
    obtain ⟨f1, f2, f3⟩ := first_of eH
    have f2' : gp m cost T β c < 0 := of_decide_eq_true f2
    have le := leaving_q n st (β := β) hbd hb (show c ≤ N by omega)
    have ok := lv_ok N c T β m
    cases ev : lvR N c T β m with
    | none =>
      rw [ev] at ok
      obtain ⟨i, hi, hp⟩ := hE L T β hr c f1 f2'
      exact absurd hp (ok i hi)
    | some r =>
      rw [ev] at ok le
      obtain ⟨o1, o2, o3⟩ := ok
      have hne : T r c ≠ 0 := fun z => by rw [z] at o2; exact absurd o2 (by decide)
      have hbl := (List.getElem?_eq_some_iff.mp hb).1
      have ta := turned_about_q n st hbd hb o1 (show c ≤ N by omega) hne hm
      have x0 := ixl0 (s := st) (.int (c : Nat)) (H.map fun i => .int (i : Nat))
      have x1 := fun s => ixl0 (s := s) (.int (r : Nat)) []
      have x2 := fun s => ixl0 (s := s) (.int (c : Nat)) (H.map fun i => .int (i : Nat))
      have ne := eqL_nil (s := st) false (toPs_ints [r])
      simp at hl hel ne
      have ct : cutD (bsl m β) none (some (r : Int)) = (bsl m β).take r := cut_to _ _ (by simp; omega)
      have cf : cutD (bsl m β) (some ((r : Int) + 1)) none = (bsl m β).drop (r + 1) := by
        have := cut_from (bsl m β) (r + 1) (by simp; omega)
        rw [← this]
        congr 2
      have ll : ∀ (ds : List D) (s : Sto), newL false ds s = .ok (.lst ds) s := fun _ _ => rfl
      have a1 : ∀ s, opAdd false (.lst ((bsl m β).take r)) (.lst [.int (c : Nat)]) s = .ok (.lst ((bsl m β).take r ++ [.int (c : Nat)])) s := fun s => opAdd_lst _ _ (by simp; omega)
      have a2 : ∀ s, opAdd false (.lst ((bsl m β).take r ++ [.int (c : Nat)])) (.lst ((bsl m β).drop (r + 1))) s = .ok (.lst (bsl m (pvb β r c))) s := fun s => by
        rw [opAdd_lst _ _ (by simp; omega), bsl_set _ _ _ _ o1]
      have nx : ∃ k', k' < N ^ m - L ∧ DeI m N many cost T0 β0 s k' [some (.ref st.length), some (.lst (bsl m (pvb β r c))), some (.tup (rl N cost)), some (.int many), some (.lst (rl N (gp m cost T β))), some (.lst (.int (c : Nat) :: H.map fun i => .int (i : Nat))), some (.lst [.int (r : Nat)]), z7] (st ++ [.lst (bdl m N (piv T r c))]) := by
        refine ⟨N ^ m - (L + 1), by omega, L + 1, piv T r c, pvb β r c, st.length, _, _, _, _, .step hr ⟨f1, f2', fun j hj => ?_, o1, o2, fun i hi hp => o3 i hi hp⟩, rfl, rfl, by simp, hg.trans (.push _ _)⟩
        have := f3 j hj
        simp at this
        grind
      simp [ga, rb, hl, nlE, hel, x0, le, atD, ne, x1, x2, ta, ct, cf, ll, a1, a2]
      exact nx
end K03
set_option maxHeartbeats 400000
set_option exponentiation.threshold 9000
namespace K03
open PySem PySem.Spec L2 Rf Lp
/-! ### spare columns, driven out -/
structure DoI (m N many : Nat) (T0 T : Bd) (β : Nat → Nat) (k : Nat) : Prop where
  bas : Bas m N T β
  eqv : Eqv m N T0 T
  fea : Fea m N T
  zer : ∀ i, i < m → many ≤ β i → T i N = 0
  don : ∀ i, i < k → i < m → many ≤ β i → ∀ j, j < many → T i j = 0
theorem DoI.skip {m N many : Nat} {T0 T : Bd} {β : Nat → Nat} {k : Nat} (h : DoI m N many T0 T β k) (hk : many ≤ β k → ∀ j, j < many → T k j = 0) : DoI m N many T0 T β (k + 1) :=
  ⟨h.bas, h.eqv, h.fea, h.zer, fun i hi him hb j hj => by
    by_cases q : i = k
    · subst q; exact hk hb j hj
    · exact h.don i (by omega) him hb j hj⟩
theorem DoI.turn {m N many : Nat} {T0 T : Bd} {β : Nat → Nat} {k c : Nat} (h : DoI m N many T0 T β k) (hk : k < m) (hN : many ≤ N) (hb : many ≤ β k) (hc : c < many) (hp : T k c ≠ 0) : DoI m N many T0 (piv T k c) (pvb β k c) (k + 1) := by
  have z := h.zer k hk hb
  have e : ∀ i, piv T k c i N = T i N := fun i => by
    by_cases q : i = k
    · subst q; rw [piv_r, z]; grind
    · rw [piv_o q, z]; grind
  refine ⟨piv_bas h.bas hk (by omega) hp, h.eqv.trans (piv_eqv hk hp), fun i hi => by rw [e]; exact h.fea i hi, fun i hi hbi => ?_, fun i hi him hbi j hj => ?_⟩
  · rw [e]
    by_cases q : i = k
    · subst q; exact z
    · exact h.zer i hi (by simpa [pvb, q] using hbi)
  · by_cases q : i = k
    · subst q
      simp [pvb] at hbi
      omega
    · have hbi' : many ≤ β i := by simpa [pvb, q] using hbi
      rw [piv_o q, h.don i (by omega) him hbi' j hj, h.don i (by omega) him hbi' c hc]
      grind
def DoJ (m N many : Nat) (T0 : Bd) (β0 : Nat → Nat) (T : Bd) (β : Nat → Nat) (k : Nat) : Prop := DoI m N many T0 T β k ∧ (T, β) = drv many k (T0, β0)
theorem DoJ.skip0 {m N many : Nat} {T0 T : Bd} {β0 β : Nat → Nat} {k : Nat} (h : DoJ m N many T0 β0 T β k) (q : ¬ many ≤ β k) : DoJ m N many T0 β0 T β (k + 1) := ⟨h.1.skip fun w => absurd w q, by
  show _ = dstep many k (drv many k (T0, β0))
  rw [← h.2]
  exact (if_neg q).symm⟩
theorem DoJ.skip1 {m N many : Nat} {T0 T : Bd} {β0 β : Nat → Nat} {k : Nat} (h : DoJ m N many T0 β0 T β k) (q : many ≤ β k) (e : (List.range many).filter (fun c => !decide (T k c = 0)) = []) (fin : ∀ j, j < many → T k j = 0) : DoJ m N many T0 β0 T β (k + 1) := ⟨h.1.skip fun _ => fin, by
  show _ = dstep many k (drv many k (T0, β0))
  rw [← h.2]
  unfold dstep
  rw [if_pos q]
  show (T, β) = match (List.range many).filter (fun c => !decide (T k c = 0)) with
    | [] => (T, β)
    | c :: _ => (piv T k c, pvb β k c)
  rw [e]⟩
theorem DoJ.turn {m N many : Nat} {T0 T : Bd} {β0 β : Nat → Nat} {k c : Nat} {H : List Nat} (h : DoJ m N many T0 β0 T β k) (hk : k < m) (hN : many ≤ N) (hb : many ≤ β k) (hc : c < many) (hp : T k c ≠ 0) (e : (List.range many).filter (fun c => !decide (T k c = 0)) = c :: H) : DoJ m N many T0 β0 (piv T k c) (pvb β k c) (k + 1) := ⟨h.1.turn hk hN hb hc hp, by
  show _ = dstep many k (drv many k (T0, β0))
  rw [← h.2]
  unfold dstep
  rw [if_pos hb]
  show (piv T k c, pvb β k c) = match (List.range many).filter (fun c => !decide (T k c = 0)) with
    | [] => (T, β)
    | c :: _ => (piv T k c, pvb β k c)
  rw [e]⟩
theorem driven_q (n : Nat) (s : Sto) {A C m N many b0 : Nat} {T0 : Bd} {cost : Nat → Rat} {β0 : Nat → Nat} (hm : m ≤ 1000) (hN : many ≤ N) (hN2 : N ≤ 1000) (hb0 : s[b0]? = some (.lst (bdl m N T0)))
    (h0 : DoI m N many T0 T0 β0 0) (hB : ∀ T β, Bas m N T β → Eqv m N T0 T → Bnd A C m N T cost) :
    (Fx (n + 6) 33 [.ref b0, .lst (bsl m β0), .int many] s).wp fun d s' => ∃ (T : Bd) (β : Nat → Nat) (b : Nat), DoJ m N many T0 β0 T β m ∧
      d = .tup [.ref b, .lst (bsl m β)] ∧ s'[b]? = some (.lst (bdl m N T)) ∧ Gr s s' := by
  rw [c33]
  have rb : rgB 0 (many : Int) = true := rgB_yes _ _ (by omega) (by omega) (by omega) (by omega) (by omega)
  have rm : rgB 0 (m : Int) = true := rgB_yes _ _ (by omega) (by omega) (by omega) (by omega) (by omega)
  have main := fun z4 z5 => for_atG (g := gNm 3)
    (b := mIfS (mTest (mOp2 (opCmp fun i j => decide (j ≤ i)) (mOp2 opIx (mVar 1) (mVar 3)) (mVar 2)))
    (mSeq (mAsg (gNm 4) (mLc false [5] (gNm 5) (mTest (mOp2 (opEq true) (mOp2 opIx (mOp2 opIx (mOp2 opIx (mVar 0) (mVar 3)) (mVar 5)) (mCst (.int 0))) (mCst (.int 0)))) (mVar 5) (mRg (mCons (mVar 2) mNil))))
    (mIfS (mTest (mOp2 (opEq true) (mVar 4) (mOpN (opLst false) mNil)))
    (mSeq (mAsg (gNm 0) (mCall (Fx (n + 5)) 29 [.at 0, .at 1, .at 2] (mCons (mVar 0) (mCons (mVar 3) (mCons (mOp2 opIx (mVar 4) (mCst (.int 0))) mNil)))))
    (mAsg (gNm 1) (mOp2 (opAdd false) (mOp2 (opAdd false) (mSl false (mVar 1) none (some (mVar 3))) (mOpN (opLst false) (mCons (mOp2 opIx (mVar 4) (mCst (.int 0))) mNil))) (mSl false (mVar 1) (some (mOp2 (opAdd false) (mVar 3) (mCst (.int 1)))) none))))
    mPass))
    mPass)
    (o := none) (all := (List.range m).map fun i => .int (i : Nat))
    (fun k env st => ∃ (T : Bd) (β : Nat → Nat) (b : Nat) (z3 z4 z5 : Option D), DoJ m N many T0 β0 T β k ∧ env = [some (.ref b), some (.lst (bsl m β)), some (.int many), z3, z4, z5] ∧ st[b]? = some (.lst (bdl m N T)) ∧ Gr s st)
    (Q := fun f st => ∃ (T : Bd) (β : Nat → Nat) (b : Nat) (z3 z4 z5 : Option D), DoJ m N many T0 β0 T β m ∧ f = .nx [some (.ref b), some (.lst (bsl m β)), some (.int many), z3, z4, z5] ∧ st[b]? = some (.lst (bdl m N T)) ∧ Gr s st)
    (fun k env st hI => rfl) ((List.range m).map fun i => .int (i : Nat)) 0
    [some (.ref b0), some (.lst (bsl m β0)), some (.int many), none, z4, z5] s
    (by
      rintro k d env st hd ⟨T, β, b, z3, z4, z5, hI, rfl, hb, hg⟩
      rw [Nat.zero_add] at hI ⊢
      rw [List.getElem?_map] at hd
      have hk : k < m := by
        cases e : (List.range m)[k]? with
        | none => rw [e] at hd; cases hd
        | some i => have := (List.getElem?_eq_some_iff.mp e).1; simpa using this
      rw [List.getElem?_range hk] at hd
      cases hd
      have hbd := hB T β hI.1.bas hI.1.eqv
      have ib := ix_bsl (s := st) (β := β) hk
      by_cases w : many ≤ β k
      · have hl : lcL [5] (gNm 5) (mTest (mOp2 (opEq true) (mOp2 opIx (mOp2 opIx (mOp2 opIx (mVar 0) (mVar 3)) (mVar 5)) (mCst (.int 0))) (mCst (.int 0)))) (mVar 5) none ((List.range many).map fun i => .int (i : Nat)) [some (.ref b), some (.lst (bsl m β)), some (.int many), some (.int k), z4, z5] ((List.range many).map fun i => .int (i : Nat)) st []
            = .ok ([] ++ ((List.range many).filter fun c => !decide (T k c = 0)).map fun i => .int (i : Nat)) st :=
          lc_fl (fun c => !decide (T k c = 0)) (fun i => .int (i : Nat)) (fun i => .int (i : Nat)) rfl (List.range many) [] fun c hc => by
            have hc' := List.mem_range.mp hc
            have i1 := ix_bdl hb hk
            have ic := ix_rlT (s := st) (f := T k) (show c < N + 1 by omega)
            have en : ((T k c).num = 0) = (T k c = 0) := propext num_z
            exact ⟨_, rfl, by simp [i1, ic, en], fun _ => by simp⟩
        rw [← rg_eq] at hl
        have nlE : ∀ st, opLst false [] st = .ok (.lst []) st := fun _ => rfl
        have hel := eqL_nil (s := st) true (toPs_ints ((List.range many).filter fun c => !decide (T k c = 0)))
        have w' : (many : Int) ≤ (β k : Int) := by omega
        cases eH : (List.range many).filter (fun c => !decide (T k c = 0)) with
        | nil =>
          rw [eH] at hl hel
          simp at hl hel
          have fin : ∀ j, j < many → T k j = 0 := fun j hj => by
            have : j ∉ (List.range many).filter (fun c => !decide (T k c = 0)) := by rw [eH]; exact nofun
            rw [List.mem_filter] at this
            simp at this
            exact this hj
          simp [ib, w', rb, hl, nlE, hel]
          exact ⟨T, β, hI.skip1 w eH fin, b, ⟨rfl, rfl⟩, hb, hg⟩
        | cons c H =>
          rw [eH] at hl hel
          obtain ⟨f1, f2, f3⟩ := first_of eH
          have hne : T k c ≠ 0 := by simpa using f2
          have hbl := (List.getElem?_eq_some_iff.mp hb).1
          have ta := turned_about_q n st hbd hb hk (show c ≤ N by omega) hne hm
          have x2 := fun s => ixl0 (s := s) (.int (c : Nat)) (H.map fun i => .int (i : Nat))
          simp at hl hel
          have ct : cutD (bsl m β) none (some (k : Int)) = (bsl m β).take k := cut_to _ _ (by simp; omega)
          have cf : cutD (bsl m β) (some ((k : Int) + 1)) none = (bsl m β).drop (k + 1) := by
            have := cut_from (bsl m β) (k + 1) (by simp; omega)
            rw [← this]
            congr 2
          have ll : ∀ (ds : List D) (s : Sto), newL false ds s = .ok (.lst ds) s := fun _ _ => rfl
          have a1 : ∀ s, opAdd false (.lst ((bsl m β).take k)) (.lst [.int (c : Nat)]) s = .ok (.lst ((bsl m β).take k ++ [.int (c : Nat)])) s := fun s => opAdd_lst _ _ (by simp; omega)
          have a2 : ∀ s, opAdd false (.lst ((bsl m β).take k ++ [.int (c : Nat)])) (.lst ((bsl m β).drop (k + 1))) s = .ok (.lst (bsl m (pvb β k c))) s := fun s => by
            rw [opAdd_lst _ _ (by simp; omega), bsl_set _ _ _ _ hk]
          simp [ib, w', rb, hl, nlE, hel, x2, ta, ct, cf, ll, a1, a2]
          exact ⟨piv T k c, pvb β k c, hI.turn hk hN w f1 hne eH, st.length, ⟨rfl, rfl⟩, by simp, hg.trans (.push _ _)⟩
      · have w' : ¬ (many : Int) ≤ (β k : Int) := by omega
        simp [ib, w']
        exact ⟨T, β, hI.skip0 w, b, ⟨rfl, rfl⟩, hb, hg⟩)
    (by
      rintro env st ⟨T, β, b, z3, z4, z5, hI, rfl, hb, hg⟩
      rw [List.length_map, List.length_range, Nat.zero_add] at hI
      exact ⟨T, β, b, z3, z4, z5, hI, rfl, hb, hg⟩)
    ⟨T0, β0, b0, none, z4, z5, ⟨h0, rfl⟩, rfl, hb0, .refl s⟩
  have ln : opLen (.lst (bsl m β0)) s = .ok (.int m) s := by
    show R.ok (D.int (bsl m β0).length) s = _
    rw [bsl_len]
  simp [runB, m_driven_out, ln, rm, rg_eq]
  refine R.wp_mono (main none none) fun f s' hh => ?_
  obtain ⟨T, β, b, z3, z4, z5, hI, rfl, hb, hg⟩ := hh
  simp
  exact ⟨T, β, hI, b, ⟨rfl, rfl⟩, hb, hg⟩
end K03
set_option maxHeartbeats 400000
set_option exponentiation.threshold 9000
namespace K03
open PySem PySem.Spec L2 Rf Lp
theorem rl_app (a b : Nat) (f : Nat → Rat) : rl (a + b) f = rl a f ++ rl b (fun j => f (a + j)) := by
  unfold rl
  rw [List.range_add, List.map_append, List.map_map]
  rfl
theorem rl_one (f : Nat → Rat) : rl 1 f = [rq (f 0)] := rfl
theorem rq_1 : rq 1 = .tup [.int 1, .int 1] := rfl
theorem rq_n1 : rq (-1) = .tup [.int (-1), .int 1] := rfl
theorem rq_0 : rq 0 = .tup [.int 0, .int 1] := rfl
theorem bz_1 : bz 1 (1 : Rat) := ⟨by decide, by decide⟩
theorem bz_0 : bz 1 (0 : Rat) := ⟨by decide, by decide⟩
theorem bz_n1 : bz 1 (-1 : Rat) := ⟨by decide, by decide⟩
theorem unit_r (n : Nat) (s : Sto) (k i : Nat) (hk : k ≤ 1000) (hi : i < k) : Fx (n + 2) 23 [.int k, .int i] s = .ok (.tup (rl k fun l => dl l i)) s := by
  rw [c23]
  have q1 := noughts_r n s i (by omega)
  have q2 := noughts_r n s (k - 1 - i) (by omega)
  have e : (k : Int) - 1 - i = ((k - 1 - i : Nat) : Int) := by omega
  rw [← e] at q2
  have l1 : (rl i fun _ => 0).length + [D.tup [.int 1, .int 1]].length ≤ 10000000 := by simp; omega
  have l2 : ((rl i fun _ => 0) ++ [D.tup [.int 1, .int 1]]).length + (rl (k - 1 - i) fun _ => 0).length ≤ 10000000 := by simp; omega
  have a1 := opAdd_tup false _ _ (s := s) l1
  have a2 := opAdd_tup false _ _ (s := s) l2
  simp only [runB, m_unit, List.length_cons, List.length_nil, if_true, x_ret, x_op2, x_call, x_cons, x_nil, x_opN, x_cst, R.bd_ok, List.map_cons, List.map_nil, List.cons_append, List.nil_append, x_varS, x_var0, g_at0, o_sub, q1, q2]
  rw [o_tup _ (by simp)]
  simp only [R.bd_ok, a1, q2, a2]
  congr 2
  have ek : k = i + 1 + (k - 1 - i) := by omega
  conv => rhs; rw [ek, rl_app, rl_app, rl_one]
  have r1 : rl i (fun l => dl l i) = rl i fun _ => 0 := rl_congr fun j hj => by unfold dl; rw [if_neg (by omega)]
  have r2 : rl (k - 1 - i) (fun j => dl (i + 1 + j) i) = rl (k - 1 - i) fun _ => 0 := rl_congr fun j hj => by unfold dl; rw [if_neg (by omega)]
  have r3 : dl (i + 0) i = 1 := by simp [dl]
  rw [r1, r2, r3, rq_1]
/-! ### the first board -/
def sg (rt : Nat → Rat) (i : Nat) : Rat := if rt i < 0 then -1 else 1
def sys (many m : Nat) (col : Nat → Nat → Rat) (rt : Nat → Rat) : Bd := fun i j => if j < many then col j i * sg rt i else if j < many + m then dl (j - many) i else rt i * sg rt i
def colD (many m : Nat) (col : Nat → Nat → Rat) : List D := (List.range many).map fun j => .tup (rl m (col j))
theorem sg_bz (rt : Nat → Rat) (i : Nat) : bz 1 (sg rt i) := by
  unfold sg
  split
  · exact bz_n1
  · exact bz_1
theorem sys_row (many m : Nat) (col : Nat → Nat → Rat) (rt : Nat → Rat) (k : Nat) : rl many (fun j => col j k * sg rt k) ++ rl m (fun l => dl l k) ++ [rq (rt k * sg rt k)] = rl (many + m + 1) (sys many m col rt k) := by
  rw [rl_app, rl_app, rl_one]
  have r1 : rl many (sys many m col rt k) = rl many (fun j => col j k * sg rt k) := rl_congr fun j hj => by unfold sys; rw [if_pos hj]
  have r2 : rl m (fun j => sys many m col rt k (many + j)) = rl m (fun l => dl l k) := rl_congr fun j hj => by
    unfold sys
    rw [if_neg (by omega), if_pos (by omega), show many + j - many = j by omega]
  have r3 : sys many m col rt k (many + m + 0) = rt k * sg rt k := by
    unfold sys
    rw [if_neg (by omega), if_neg (by omega)]
  rw [r1, r2, r3]
theorem first_board_q (n : Nat) (s : Sto) {A many m : Nat} {col : Nat → Nat → Rat} {rt : Nat → Rat} (hA : A ≤ BG) (hc : ∀ j, j < many → ∀ i, i < m → bz A (col j i)) (hr : ∀ i, i < m → bz A (rt i)) (hm : m ≤ 1000) (hn : many ≤ 1000) :
    Fx (n + 5) 24 [.lst (colD many m col), .tup (rl m rt)] s = .ok (.tup [.ref s.length, .lst (rl m (sg rt))]) (s ++ [.lst (bdl m (many + m) (sys many m col rt))]) := by
  rw [c24]
  refine wp_eq2 ?_
  have main := fun z5 z6 z7 => for_atG (g := gTp 2 (gCons (gNm 5) (gCons (gNm 6) gNil)))
    (b := mSeq (mAsg (gNm 7) (mOpN (un1 opTupOf) (mCons (mLc false [9] (gNm 9) mYes (mCall (Fx (n + 4)) 21 [.at 0, .at 1] (mCons (mOp2 opIx (mVar 9) (mVar 5)) (mCons (mVar 6) mNil))) (mIt (mVar 0))) mNil)))
    (mExp (mMt opApp (mVar 4) (mOp2 (opAdd false) (mOp2 (opAdd false) (mVar 7) (mCall (Fx (n + 4)) 23 [.at 0, .at 1] (mCons (mVar 2) (mCons (mVar 5) mNil)))) (mOpN opTup (mCons (mCall (Fx (n + 4)) 21 [.at 0, .at 1] (mCons (mOp2 opIx (mVar 1) (mVar 5)) (mCons (mVar 6) mNil))) mNil))))))
    (o := none) (all := (List.range m).map fun i => .tup [.int (i : Nat), rq (sg rt i)])
    (fun k env st => st = s ++ [.lst ((List.range k).map fun i => .tup (rl (many + m + 1) (sys many m col rt i)))] ∧ ∃ z5 z6 z7, env = [some (.lst (colD many m col)), some (.tup (rl m rt)), some (.int m), some (.lst (rl m (sg rt))), some (.ref s.length), z5, z6, z7, none, none])
    (Q := fun f st => st = s ++ [.lst ((List.range m).map fun i => .tup (rl (many + m + 1) (sys many m col rt i)))] ∧ ∃ z5 z6 z7, f = .nx [some (.lst (colD many m col)), some (.tup (rl m rt)), some (.int m), some (.lst (rl m (sg rt))), some (.ref s.length), z5, z6, z7, none, none])
    (fun k env st hI => rfl) ((List.range m).map fun i => .tup [.int (i : Nat), rq (sg rt i)]) 0
    [some (.lst (colD many m col)), some (.tup (rl m rt)), some (.int m), some (.lst (rl m (sg rt))), some (.ref s.length), z5, z6, z7, none, none] (s ++ [.lst []])
    (by
      rintro k d env st hd ⟨rfl, z5, z6, z7, rfl⟩
      rw [Nat.zero_add]
      rw [List.getElem?_map] at hd
      have hk : k < m := by
        cases e : (List.range m)[k]? with
        | none => rw [e] at hd; cases hd
        | some i => have := (List.getElem?_eq_some_iff.mp e).1; simpa using this
      rw [List.getElem?_range hk] at hd
      cases hd
      have snoc : (List.range (k + 1)).map (fun i => D.tup (rl (many + m + 1) (sys many m col rt i))) = (List.range k).map (fun i => D.tup (rl (many + m + 1) (sys many m col rt i))) ++ [.tup (rl (many + m + 1) (sys many m col rt k))] := by
        rw [List.range_succ, List.map_append]; rfl
      have al := app_lst s ((List.range k).map fun i => .tup (rl (many + m + 1) (sys many m col rt i)))
      have aa := fun y => app_app s ((List.range k).map fun i => .tup (rl (many + m + 1) (sys many m col rt i))) y (by simp; omega)
      rw [snoc]
      generalize hst : s ++ [O.lst ((List.range k).map fun i => .tup (rl (many + m + 1) (sys many m col rt i)))] = st at *
      have hsg := sg_bz rt k
      have l : lcL [9] (gNm 9) mYes (mCall (Fx (n + 4)) 21 [.at 0, .at 1] (mCons (mOp2 opIx (mVar 9) (mVar 5)) (mCons (mVar 6) mNil))) none (colD many m col) [some (.lst (colD many m col)), some (.tup (rl m rt)), some (.int m), some (.lst (rl m (sg rt))), some (.ref s.length), some (.int k), some (rq (sg rt k)), z7, none, none] (colD many m col) st []
          = .ok ([] ++ (List.range many).map fun j => rq (col j k * sg rt k)) st :=
        lc_mapA (h := fun j => .tup (rl m (col j))) (List.range many) [] fun j hj => by
          have i1 := ix_rlT (s := st) (f := col j) hk
          have q1 := times_r (n + 1) st (hc j (List.mem_range.mp hj) k hk) hsg (by omega)
          exact ⟨_, rfl, by simp [i1, q1]⟩
      have i2 := ix_rlT (s := st) (f := rt) hk
      have q2 := times_r (n + 1) st (hr k hk) hsg (by omega)
      have u := unit_r (n + 2) st m k hm hk
      have a1 := opAdd_tup false (rl many fun j => col j k * sg rt k) (rl m fun l => dl l k) (s := st) (by simp; omega)
      have a2 := opAdd_tup false (rl many (fun j => col j k * sg rt k) ++ rl m fun l => dl l k) [rq (rt k * sg rt k)] (s := st) (by simp; omega)
      rw [sys_row] at a2
      have e1 : (List.range many).map (fun j => rq (col j k * sg rt k)) = rl many fun j => col j k * sg rt k := rfl
      rw [List.nil_append, e1] at l
      simp [l, i2, q2, u, a1, a2, al, aa])
    (by
      rintro env st ⟨rfl, z5, z6, z7, rfl⟩
      rw [List.length_map, List.length_range, Nat.zero_add]
      exact ⟨rfl, z5, z6, z7, rfl⟩)
    ⟨rfl, z5, z6, z7, rfl⟩
  have en : enD [.lst (rl m (sg rt))] (s ++ [.lst []]) = some ((List.range m).map fun i => .tup [.int (i : Nat), rq (sg rt i)], none) := by
    rw [en_l]
    unfold rl
    rw [enum_rg]
  have ln : opLen (.tup (rl m rt)) s = .ok (.int m) s := by
    show R.ok (D.int (rl m rt).length) s = _
    rw [rl_len]
  have ls : lcL [8] (gNm 8) mYes (mIf (mTest (mOp2 (opCmp fun i j => decide (i < j)) (mOp2 opIx (mVar 8) (mCst (.int 0))) (mCst (.int 0)))) (mCst (.tup [(.int (-1)), (.int (1))])) (mCst (.tup [(.int (1)), (.int (1))]))) none (rl m rt) [some (.lst (colD many m col)), some (.tup (rl m rt)), some (.int m), none, none, none, none, none, none, none] (rl m rt) s []
      = .ok ([] ++ (List.range m).map fun i => rq (sg rt i)) s :=
    lc_mapA (h := fun i => rq (rt i)) (List.range m) [] fun i hi => by
      have en : ((rt i).num < 0) = (rt i < 0) := propext num_neg
      refine ⟨_, rfl, ?_⟩
      by_cases q : rt i < 0
      · simp [en, q, sg, rq_n1]
      · simp [en, q, sg, rq_1]
  have e1 : (List.range m).map (fun i => rq (sg rt i)) = rl m (sg rt) := rfl
  rw [List.nil_append, e1] at ls
  have nl : opLst true [] s = .ok (.ref s.length) (s ++ [.lst []]) := rfl
  have ll : ∀ (ds : List D) (s : Sto), newL false ds s = .ok (.lst ds) s := fun _ _ => rfl
  simp [runB, m_first_board, ln, ls, nl, ll, en]
  refine R.wp_mono (main none none none) fun f s' hh => ?_
  obtain ⟨rfl, z5, z6, z7, rfl⟩ := hh
  simp
  rfl
/-! ### what the last board tells -/
def wk (N : Nat) (T : Bd) (β : Nat → Nat) (k j : Nat) : Rat := sm k (fun i => T i N * dl j (β i))
theorem weights_q (n : Nat) (s : Sto) {m N many b : Nat} {T : Bd} {β : Nat → Nat} (hN : many ≤ N) (hn : many ≤ 1000) (B : Bas m N T β) (hb : s[b]? = some (.lst (bdl m N T))) :
    (Fx (n + 2) 34 [.ref b, .lst (bsl m β), .int many] s) = .ok (.tup (rl many (wt m N T β))) (s ++ [.lst (rl many (wt m N T β))]) := by
  rw [c34]
  refine wp_eq2 ?_
  have hbl := (List.getElem?_eq_some_iff.mp hb).1
  have ez : zip2D (bdl m N T) (bsl m β) = (List.range m).map fun i => .tup [.tup (rl (N + 1) (T i)), .int (β i : Nat)] := by
    unfold bdl bsl
    rw [zip_rg, Nat.min_self]
  have main := fun z4 z5 => for_atG (g := gTp 2 (gCons (gNm 4) (gCons (gNm 5) gNil)))
    (b := mIfS (mTest (mOp2 (opCmp fun i j => decide (i < j)) (mVar 5) (mVar 2)))
    (mAsg (gSub (mVar 3) (mVar 5)) (mOp2 opIx (mVar 4) (mOp1 opNeg (mCst (.int 1)))))
    mPass)
    (o := some (.many [(b, bdl m N T)])) (all := zip2D (bdl m N T) (bsl m β))
    (fun k env st => st = s ++ [.lst (rl many (wk N T β k))] ∧ ∃ z4 z5, env = [some (.ref b), some (.lst (bsl m β)), some (.int many), some (.ref s.length), z4, z5])
    (Q := fun f st => st = s ++ [.lst (rl many (wk N T β m))] ∧ ∃ z4 z5, f = .nx [some (.ref b), some (.lst (bsl m β)), some (.int many), some (.ref s.length), z4, z5])
    (fun k env st hI => by
      rw [hI.1]
      exact gst_bdl (by rw [List.getElem?_append_left hbl]; exact hb)) ((List.range m).map fun i => .tup [.tup (rl (N + 1) (T i)), .int (β i : Nat)]) 0
    [some (.ref b), some (.lst (bsl m β)), some (.int many), some (.ref s.length), z4, z5] (s ++ [.lst (rl many fun _ => 0)])
    (by
      rintro k d env st hd ⟨rfl, z4, z5, rfl⟩
      rw [Nat.zero_add]
      rw [List.getElem?_map] at hd
      have hk : k < m := by
        cases e : (List.range m)[k]? with
        | none => rw [e] at hd; cases hd
        | some i => have := (List.getElem?_eq_some_iff.mp e).1; simpa using this
      rw [List.getElem?_range hk] at hd
      cases hd
      have il := ix_lastR (s := s ++ [.lst (rl many (wk N T β k))]) (N := N) (f := T k)
      by_cases w : β k < many
      · have w' : ((β k : Nat) : Int) < (many : Int) := by omega
        have st := setIx_S (d := rq (T k N)) (app_at s (.lst (rl many (wk N T β k)))) (i := ((β k : Nat) : Int)) (by omega) (by simp; omega)
        have e1 : (rl many (wk N T β k)).set (β k) (rq (T k N)) = rl many (wk N T β (k + 1)) := by
          apply List.ext_getElem?
          intro j
          rw [List.getElem?_set]
          by_cases q : β k = j
          · subst q
            rw [if_pos rfl, rl_get w]
            simp [w]
            congr 1
            unfold wk
            simp only [sm]
            rw [sm_none k _ fun i hi => by
              have : β k ≠ β i := fun z => by have := B.inj hk (by omega) z; omega
              simp only [dl, if_neg this]; grind]
            simp [dl]
            grind
          · rw [if_neg q]
            by_cases hj : j < many
            · rw [rl_get hj, rl_get hj]
              congr 2
              unfold wk
              simp only [sm, dl, if_neg (fun z : j = β k => q z.symm)]
              grind
            · rw [List.getElem?_eq_none_iff.mpr (by simp; omega), List.getElem?_eq_none_iff.mpr (by simp; omega)]
        rw [show ((β k : Nat) : Int).toNat = β k by omega, e1] at st
        simp [w', il, st]
      · have w' : ¬ ((β k : Nat) : Int) < (many : Int) := by omega
        have e1 : rl many (wk N T β (k + 1)) = rl many (wk N T β k) := rl_congr fun j hj => by
          unfold wk
          simp only [sm, dl, if_neg (show ¬ j = β k by omega)]
          grind
        simp [w', e1])
    (by
      rintro env st ⟨rfl, z4, z5, rfl⟩
      rw [List.length_map, List.length_range, Nat.zero_add]
      exact ⟨rfl, z4, z5, rfl⟩)
    (by
      refine ⟨?_, z4, z5, rfl⟩
      have e : rl many (wk N T β 0) = rl many fun _ => 0 := rl_congr fun j _ => by unfold wk; simp only [sm]
      rw [e])
  rw [← ez] at main
  have no := noughts_r n s many hn
  have ll : opLstOf true (.tup (rl many fun _ => 0)) s = .ok (.ref s.length) (s ++ [.lst (rl many fun _ => 0)]) := rfl
  have zz := zp_bdl (s := s ++ [.lst (rl many fun _ => 0)]) (b := b) (m := m) (N := N) (T := T) (by rw [List.getElem?_append_left hbl]; exact hb) (bsl m β)
  simp [runB, m_weights_by, no, ll, zz]
  refine R.wp_mono (main none none) fun f s' hh => ?_
  obtain ⟨rfl, z4, z5, rfl⟩ := hh
  have to := opTupOf_ref (app_at s (.lst (rl many (wk N T β m))))
  simp [to]
  rfl
theorem prices_q (n : Nat) (s : Sto) {A C m N many : Nat} {T : Bd} {cost rt : Nat → Rat} {β : Nat → Nat} (h : Bnd A C m N T cost) (hN : N = many + m) (hβ : ∀ i, i < m → β i < N) (hg : 2 * (C * Pg C A m) ≤ BG) :
    Fx (n + 4) 35 [.lst (rl N (gp m cost T β)), .lst (rl m (sg rt)), .tup (rl N cost), .int many] s = .ok (.tup (rl m fun i => sg rt i * pr m many cost T β i)) s := by
  rw [c35]
  have en : enD [.lst (rl m (sg rt))] s = some ((List.range m).map fun i => .tup [.int (i : Nat), rq (sg rt i)], none) := by
    rw [en_l]
    unfold rl
    rw [enum_rg]
  have l : lcL [4, 5] (gTp 2 (gCons (gNm 4) (gCons (gNm 5) gNil))) mYes (mCall (Fx (n + 3)) 21 [.at 0, .at 1] (mCons (mVar 5) (mCons (mCall (Fx (n + 3)) 25 [.at 0, .at 1] (mCons (mOp2 opIx (mVar 2) (mOp2 (opAdd false) (mVar 3) (mVar 4))) (mCons (mOp2 opIx (mVar 0) (mOp2 (opAdd false) (mVar 3) (mVar 4))) mNil))) mNil))) none ((List.range m).map fun i => .tup [.int (i : Nat), rq (sg rt i)])
      [some (.lst (rl N (gp m cost T β))), some (.lst (rl m (sg rt))), some (.tup (rl N cost)), some (.int many), none, none] ((List.range m).map fun i => .tup [.int (i : Nat), rq (sg rt i)]) s [] = .ok ([] ++ (List.range m).map fun i => rq (sg rt i * pr m many cost T β i)) s :=
    lc_mapA (h := fun i => .tup [.int (i : Nat), rq (sg rt i)]) (List.range m) [] fun i hi => by
      have hi' := List.mem_range.mp hi
      have e : (many : Int) + (i : Int) = ((many + i : Nat) : Int) := by omega
      have i1 := ix_rlT (s := s) (f := cost) (show many + i < N by omega)
      have i2 := ix_rlL (s := s) (f := gp m cost T β) (show many + i < N by omega)
      have b1 := h.c (many + i) (by omega)
      have b2 : bz (Pg C A m) (gp m cost T β (many + i)) := gk_b h hβ (show many + i < N by omega) m (Nat.le_refl _)
      have q1 := minus_r n s b1 b2 hg
      have q2 := times_r n s (sg_bz rt i) (bz_sub b1 b2) (by omega)
      exact ⟨[some (.lst (rl N (gp m cost T β))), some (.lst (rl m (sg rt))), some (.tup (rl N cost)), some (.int many), some (.int i), some (rq (sg rt i))], by simp, by
        simp only [x_call, x_cons, x_nil, x_varS, x_var0, x_op2, o_add, R.bd_ok, e, i1, i2, List.map_cons, List.map_nil, g_at0, g_atS, q1, q2]
        rfl⟩
  have e1 : (List.range m).map (fun i => rq (sg rt i * pr m many cost T β i)) = rl m fun i => sg rt i * pr m many cost T β i := rfl
  rw [List.nil_append, e1] at l
  simp [runB, m_prices, en, l]
end K03
set_option maxHeartbeats 400000
set_option exponentiation.threshold 9000
namespace K03
open PySem PySem.Spec L2 Rf Lp
/-! ### sizes -/
theorem frac_bz {u : Int} {d n : Nat} (hd : 0 < d) (h1 : u.natAbs ≤ n) (h2 : d ≤ n) : bz n ((u : Rat) / (d : Rat)) := by
  have e : ((d : Nat) : Rat) = (((d : Nat) : Int) : Rat) := (nat_int d).symm
  rw [e]
  refine bz_bq.mpr ?_
  rw [← qn_nq (show (0 : Int) < (d : Int) by omega)]
  exact qn_bq (by omega) h1 (by simpa using h2)
theorem Sz.bz {n m N : Nat} {T : Bd} (h : Sz n m N T) {i j : Nat} (hi : i < m) (hj : j ≤ N) : bz n (T i j) := by
  obtain ⟨d, u, h1, h2, h3⟩ := h i hi
  rw [(h3 j hj).2]
  exact frac_bz h1 (h3 j hj).1 h2
/-! ### the system -/
section
variable {many m : Nat} {col : Nat → Nat → Rat} {rt : Nat → Rat}
theorem sys_N (i : Nat) : sys many m col rt i (many + m) = rt i * sg rt i := by
  unfold sys
  rw [if_neg (by omega), if_neg (by omega)]
theorem sys_c {i j : Nat} (hj : j < many) : sys many m col rt i j = col j i * sg rt i := by
  unfold sys
  rw [if_pos hj]
theorem sys_spare : Spare m many (sys many m col rt) := fun i hi l hl => by
  unfold sys
  rw [if_neg (by omega), if_pos (by omega), show many + l - many = l by omega]
  unfold dl
  by_cases q : i = l
  · rw [if_pos q, if_pos q.symm]
  · rw [if_neg q, if_neg fun z => q z.symm]
theorem sys_fea : Fea m (many + m) (sys many m col rt) := fun i _ => by
  rw [sys_N]
  unfold sg
  split <;> grind
theorem sg_sq (i : Nat) : sg rt i * sg rt i = 1 := by
  unfold sg
  split <;> grind
theorem sys_sum {j : Nat} (hj : j < many) (x : Nat → Rat) : sm m (fun i => sys many m col rt i j * x i) = sm m (fun i => col j i * (sg rt i * x i)) := sm_congr fun i _ => by
  rw [sys_c hj]
  grind
theorem sys_sumN (x : Nat → Rat) : sm m (fun i => sys many m col rt i (many + m) * x i) = sm m (fun i => rt i * (sg rt i * x i)) := sm_congr fun i _ => by
  rw [sys_N]
  grind
theorem sys_row_sum {i : Nat} (x : Nat → Rat) : sm many (fun j => sys many m col rt i j * x j) = sg rt i * sm many (fun j => col j i * x j) := by
  rw [← sm_mul]
  exact sm_congr fun j hj => by rw [sys_c hj]; grind
end
/-- what the program's least tells -/
def LbRes (many m GB PB : Nat) (col : Nat → Nat → Rat) (rt cs : Nat → Rat) (d : D) : Prop :=
  (∃ y : Nat → Rat, d = .tup [.tup [], .tup (rl m y)] ∧ (∀ i, i < m → bz PB (y i)) ∧ (∀ j, j < many → sm m (fun i => col j i * y i) ≤ 0) ∧ 0 < sm m (fun i => rt i * y i)) ∨
  (∃ lam y : Nat → Rat, d = .tup [.tup (rl many lam), .tup (rl m y)] ∧ (∀ i, i < m → bz PB (y i)) ∧ (∀ j, j < many → 0 ≤ lam j ∧ bz GB (lam j)) ∧ (∀ i, i < m → sm many (fun j => col j i * lam j) = rt i) ∧ (∀ j, j < many → sm m (fun i => col j i * y i) ≤ cs j) ∧
    sm many (fun j => cs j * lam j) = sm m (fun i => rt i * y i))
def cost2 (many : Nat) (cs : Nat → Rat) (j : Nat) : Rat := if j < many then cs j else 0
/-- .. and how it is come to -/
def LbFn (many m : Nat) (col : Nat → Nat → Rat) (rt cs : Nat → Rat) (d : D) : Prop := ∃ (L : Nat) (T : Bd) (β : Nat → Nat), Run m (many + m) many (cost1 many (many + m)) (sys many m col rt) (fun i => many + i) L T β ∧ (∀ j, j < many → 0 ≤ gp m (cost1 many (many + m)) T β j) ∧
  (((∃ k, k < m ∧ many ≤ β k ∧ 0 < T k (many + m)) ∧ d = .tup [.tup [], .tup (rl m fun i => sg rt i * pr m many (cost1 many (many + m)) T β i)]) ∨
   ((∀ k, k < m → many ≤ β k → T k (many + m) = 0) ∧ ∃ (T2 : Bd) (β2 : Nat → Nat) (L' : Nat) (T' : Bd) (β' : Nat → Nat), (T2, β2) = drv many m (T, β) ∧ Bas m (many + m) T2 β2 ∧ Fea m (many + m) T2 ∧ Run m (many + m) many (cost2 many cs) T2 β2 L' T' β' ∧ (∀ j, j < many → 0 ≤ gp m (cost2 many cs) T' β' j) ∧
     d = .tup [.tup (rl many (wt m (many + m) T' β')), .tup (rl m fun i => sg rt i * pr m many (cost2 many cs) T' β' i)]))
theorem LbFn.one {many m : Nat} {col : Nat → Nat → Rat} {rt cs : Nat → Rat} {d d' : D} (h : LbFn many m col rt cs d) (h' : LbFn many m col rt cs d') : d = d' := by
  obtain ⟨L, T, β, r1, l1, q1⟩ := h
  obtain ⟨L', T', β', r2, l2, q2⟩ := h'
  obtain ⟨rfl, rfl⟩ := r1.det (by omega) (bas0 sys_spare) sys_fea r2 l1 l2
  rcases q1 with ⟨⟨k, k1, k2, k3⟩, rfl⟩ | ⟨z, T2, β2, L3, T3, β3, e3, b3, f3, r3, l3, rfl⟩
  · rcases q2 with ⟨_, rfl⟩ | ⟨z, _⟩
    · rfl
    · have := z k k1 k2
      exfalso
      grind
  · rcases q2 with ⟨⟨k, k1, k2, k3⟩, _⟩ | ⟨_, T4, β4, L5, T5, β5, e5, b5, f5, r5, l5, rfl⟩
    · have := z k k1 k2
      exfalso
      grind
    · rw [← e3] at e5
      cases e5
      obtain ⟨rfl, rfl⟩ := r3.det (by omega) b3 f3 r5 l3 l5
      rfl
theorem wt_bz {m N GB : Nat} {T : Bd} {β : Nat → Nat} (B : Bas m N T β) (h : ∀ i, i < m → bz GB (T i N)) (h1 : 1 ≤ GB) (j : Nat) : bz GB (wt m N T β j) := by
  by_cases q : ∃ k, k < m ∧ β k = j
  · obtain ⟨k, hk, rfl⟩ := q
    rw [wt_at B hk]
    exact h k hk
  · rw [wt_no fun k hk z => q ⟨k, hk, z⟩]
    exact bz_mono h1 bz_0
structure LbOk (many m n0 C : Nat) (col : Nat → Nat → Rat) (rt cs : Nat → Rat) : Prop where
  hN : many + m ≤ 1000
  hL : (many + m) ^ m < 1000000
  n1 : 1 ≤ n0
  c1 : 1 ≤ C
  sz : Sz n0 m (many + m) (sys many m col rt)
  cb : ∀ j, j < many → bz C (cs j)
  cl : ∀ j, j < many → ∀ i, i < m → bz n0 (col j i)
  rb : ∀ i, i < m → bz n0 (rt i)
  g : 2 * (C * Pg C (gi m n0) m) ≤ BG
  f : 2 * (gi m n0 * (gi m n0 * (gi m n0 * gi m n0))) ≤ BG
  pi : ∃ π : Nat → Rat, ∀ j, j < many → sm m (fun i => col j i * π i) ≤ cs j
theorem least_q (n : Nat) (s : Sto) {many m n0 C : Nat} {col : Nat → Nat → Rat} {rt cs : Nat → Rat} (H : LbOk many m n0 C col rt cs) (cD : D) (hT : ∀ s, opTupOf cD s = .ok (.tup (rl many cs)) s) :
    (Fx (n + 7) 36 [.lst (colD many m col), .tup (rl m rt), cD] s).wp fun d s' => (LbRes many m (gi m n0) (2 * (C * Pg C (gi m n0) m)) col rt cs d ∧ LbFn many m col rt cs d) ∧ Gr s s' := by
  have hN := H.hN
  have G1 := gi_ge H.n1 m
  have hA : n0 ≤ BG := by
    have h1 : gi m n0 ≤ gi m n0 * (gi m n0 * (gi m n0 * gi m n0)) := Nat.le_mul_of_pos_right _ (Nat.mul_pos (by have := H.n1; omega) (Nat.mul_pos (by have := H.n1; omega) (by have := H.n1; omega)))
    have := H.f
    omega
  have Sp : Spare m many (sys many m col rt) := sys_spare
  have B0 := bas0 Sp
  have F0 : Fea m (many + m) (sys many m col rt) := sys_fea
  have Pc : Pg C (gi m n0) m ≤ BG := by
    have := Nat.le_mul_of_pos_left (Pg C (gi m n0) m) H.c1
    have := H.g
    omega
  have cz1 : ∀ j, bz C (cost1 many (many + m) j) := fun j => by
    unfold cost1
    split
    · exact bz_mono H.c1 bz_1
    · exact bz_mono H.c1 bz_0
  have cz2 : ∀ j, bz C (cost2 many cs j) := fun j => by
    unfold cost2
    split
    · exact H.cb j (by assumption)
    · exact bz_mono H.c1 bz_0
  have bnd : ∀ (cost : Nat → Rat), (∀ j, bz C (cost j)) → ∀ T β, Bas m (many + m) T β → Eqv m (many + m) (sys many m col rt) T → Bnd (gi m n0) C m (many + m) T cost := fun cost hc T β hb he =>
    ⟨fun i hi j hj => Sz.bz (size_of H.n1 B0 hb he H.sz) hi hj, fun j _ => hc j, by have := H.n1; omega, H.c1, Pc, H.f⟩
  have fb := first_board_q (n + 1) s hA H.cl H.rb (by omega) (by omega) (many := many) (m := m)
  rw [c36]
  unfold runB m_least_by
  rw [if_pos (show [D.lst (colD many m col), .tup (rl m rt), cD].length = 3 from rfl), wp_bd']
  have ln0 : opLen (.lst (colD many m col)) s = .ok (.int many) s := by
    show R.ok (D.int (colD many m col).length) s = _
    simp [colD]
  have ln1 : opLen (.tup (rl m rt)) s = .ok (.int m) s := by
    show R.ok (D.int (rl m rt).length) s = _
    rw [rl_len]
  -- the first board
  refine wp_seq (R.wp_mono (Q := fun f s1 => s1 = s ∧ f = .nx [some (.lst (colD many m col)), some (.tup (rl m rt)), some cD, none, some (.int many), some (.int m), none, none, none, none, none, none]) ?_ ?_)
  · simp [ln0, ln1]
  rintro _ s1 ⟨rfl, rfl⟩
  refine wp_seq (R.wp_mono (Q := fun f s2 => s2 = s1 ++ [.lst (bdl m (many + m) (sys many m col rt))] ∧ f = .nx [some (.lst (colD many m col)), some (.tup (rl m rt)), some cD, none, some (.int many), some (.int m), some (.ref s1.length), some (.lst (rl m (sg rt))), none, none, none, none]) ?_ ?_)
  · simp [fb]
  rintro _ s2 ⟨hs2, rfl⟩
  have hb2 : s2[s1.length]? = some (.lst (bdl m (many + m) (sys many m col rt))) := by rw [hs2]; simp
  have g2 : Gr s1 s2 := by rw [hs2]; exact .push _ _
  clear fb hs2
  -- the first costs
  refine wp_seq (R.wp_mono (Q := fun f s3 => s3 = s2 ∧ f = .nx [some (.lst (colD many m col)), some (.tup (rl m rt)), some cD, some (.tup (rl (many + m) (cost1 many (many + m)))), some (.int many), some (.int m), some (.ref s1.length), some (.lst (rl m (sg rt))), none, none, none, none]) ?_ ?_)
  · have no := noughts_r (n + 5) s2 many (by omega)
    have mu := opMul_rep (s := s2) (rq 1) m (by omega)
    rw [rq_1] at mu
    have e1 : rl many (fun _ => 0) ++ List.replicate m (rq 1) = rl (many + m) (cost1 many (many + m)) := by
      rw [rl_app]
      have r1 : rl many (cost1 many (many + m)) = rl many fun _ => 0 := rl_congr fun j hj => by unfold cost1; rw [if_neg (by omega)]
      have r2 : rl m (fun j => cost1 many (many + m) (many + j)) = rl m fun _ => 1 := rl_congr fun j hj => by unfold cost1; rw [if_pos (by omega)]
      rw [r1, r2]
      unfold rl
      rw [List.map_const' (b := rq 1), List.length_range]
    rw [rq_1] at e1
    have ad := opAdd_tup false (rl many fun _ => 0) (List.replicate m (D.tup [.int 1, .int 1])) (s := s2) (by simp; omega)
    rw [e1] at ad
    simp [no, mu, ad]
  rintro _ s3 ⟨rfl, rfl⟩
  -- the first descent
  have d1 := descended_q n s3 (A := gi m n0) (C := C) (many := many) (m := m) (N := many + m) (b0 := s1.length) (T0 := sys many m col rt) (cost := cost1 many (many + m)) (β0 := fun i => many + i) (by omega) (by omega) (by omega) (by unfold cost1; rw [if_neg (by omega)]) hb2 B0 F0
    (fun L T β hr => by
      obtain ⟨h1, h2, h3⟩ := hr.inv (by omega) B0 F0
      exact bnd _ cz1 T β h1 h3) H.hL (fun L T β hr c hc hg => leave1 hc hg)
  refine wp_seq (R.wp_mono (Q := fun f s4 => ∃ (T : Bd) (β : Nat → Nat) (b : Nat), f = .nx [some (.lst (colD many m col)), some (.tup (rl m rt)), some cD, some (.tup (rl (many + m) (cost1 many (many + m)))), some (.int many), some (.int m), some (.ref b), some (.lst (rl m (sg rt))), some (.lst (bsl m β)), some (.lst (rl (many + m) (gp m (cost1 many (many + m)) T β))), none, none] ∧
      Bas m (many + m) T β ∧ Fea m (many + m) T ∧ Eqv m (many + m) (sys many m col rt) T ∧ s4[b]? = some (.lst (bdl m (many + m) T)) ∧ Gr s1 s4 ∧ (∀ j, j < many → 0 ≤ gp m (cost1 many (many + m)) T β j) ∧ ∃ L, Run m (many + m) many (cost1 many (many + m)) (sys many m col rt) (fun i => many + i) L T β) ?_ ?_)
  · have rb : rgB (many : Int) ((many : Int) + (m : Int)) = true := rgB_yes _ _ (by omega) (by omega) (by omega) (by omega) (by omega)
    have rg : rgI (many : Int) ((many : Int) + (m : Int)) = bsl m fun i => many + i := by
      unfold rgI bsl
      rw [show ((many : Int) + (m : Int) - (many : Int)).toNat = m by omega]
      exact List.map_congr_left fun i _ => by simp
    have ll : ∀ (ds : List D) (s : Sto), newL false ds s = .ok (.lst ds) s := fun _ _ => rfl
    have e : mLrg false (mCons (mVar 4) (mCons (mOp2 (opAdd false) (mVar 4) (mVar 5)) mNil)) [some (.lst (colD many m col)), some (.tup (rl m rt)), some cD, some (.tup (rl (many + m) (cost1 many (many + m)))), some (.int many), some (.int m), some (.ref s1.length), some (.lst (rl m (sg rt))), none, none, none, none] s3 = .ok (.lst (bsl m fun i => many + i)) s3 := by
      unfold mLrg
      simp [rb, rg, ll]
    simp [e]
    refine R.wp_mono d1 fun d s4 hd => ?_
    obtain ⟨L, T, β, b, hr, rfl, hb, hg, low⟩ := hd
    obtain ⟨h1, h2, h3⟩ := hr.inv (by omega) B0 F0
    simp
    exact ⟨T, β, b, ⟨rfl, rfl, rfl⟩, h1, h2, h3, hb, g2.trans hg, low, L, hr⟩
  rintro _ s4 ⟨T, β, b, rfl, b1, f1, e1, hb4, g4, low1, L1, run1⟩
  clear d1
  have Bd1 := bnd _ cz1 T β b1 e1
  -- whether something is left
  refine wp_seq (R.wp_mono (Q := fun f s5 => (∃ d, f = .rt d ∧ (LbRes many m (gi m n0) (2 * (C * Pg C (gi m n0) m)) col rt cs d ∧ LbFn many m col rt cs d) ∧ Gr s1 s5) ∨ (s5 = s4 ∧ (∀ k, k < m → many ≤ β k → T k (many + m) = 0) ∧ f = .nx [some (.lst (colD many m col)), some (.tup (rl m rt)), some cD, some (.tup (rl (many + m) (cost1 many (many + m)))), some (.int many), some (.int m), some (.ref b), some (.lst (rl m (sg rt))), some (.lst (bsl m β)), some (.lst (rl (many + m) (gp m (cost1 many (many + m)) T β))), none, none])) ?_ ?_)
  · have ez : zip2D (bdl m (many + m) T) (bsl m β) = (List.range m).map fun i => .tup [.tup (rl (many + m + 1) (T i)), .int (β i : Nat)] := by
      unfold bdl bsl
      rw [zip_rg, Nat.min_self]
    have l : lcL [10, 11] (gTp 2 (gCons (gNm 10) (gCons (gNm 11) gNil))) mYes (mAndV (mOp2 (opCmp fun i j => decide (j ≤ i)) (mVar 11) (mVar 4)) (mOp2 (opCmp fun i j => decide (j < i)) (mOp2 opIx (mOp2 opIx (mVar 10) (mOp1 opNeg (mCst (.int 1)))) (mCst (.int 0))) (mCst (.int 0)))) (some (.many [(b, bdl m (many + m) T)])) (zip2D (bdl m (many + m) T) (bsl m β))
        [some (.lst (colD many m col)), some (.tup (rl m rt)), some cD, some (.tup (rl (many + m) (cost1 many (many + m)))), some (.int many), some (.int m), some (.ref b), some (.lst (rl m (sg rt))), some (.lst (bsl m β)), some (.lst (rl (many + m) (gp m (cost1 many (many + m)) T β))), none, none] ((List.range m).map fun i => .tup [.tup (rl (many + m + 1) (T i)), .int (β i : Nat)]) s4 []
        = .ok ([] ++ ((List.range m).filter fun _ => true).map fun i => .bl (decide (many ≤ β i) && decide (0 < T i (many + m)))) s4 :=
      lc_fl (fun _ => true) (fun i => .tup [.tup (rl (many + m + 1) (T i)), .int (β i : Nat)]) (fun i => .bl (decide (many ≤ β i) && decide (0 < T i (many + m)))) (gst_bdl hb4) (List.range m) [] fun i hi => by
        have il := ix_lastR (s := s4) (N := many + m) (f := T i)
        refine ⟨[some (.lst (colD many m col)), some (.tup (rl m rt)), some cD, some (.tup (rl (many + m) (cost1 many (many + m)))), some (.int many), some (.int m), some (.ref b), some (.lst (rl m (sg rt))), some (.lst (bsl m β)), some (.lst (rl (many + m) (gp m (cost1 many (many + m)) T β))), some (.tup (rl (many + m + 1) (T i))), some (.int (β i : Nat))], by simp, rfl, fun _ => ?_⟩
        have en : (0 < (T i (many + m)).num) = (0 < T i (many + m)) := propext num_pos
        have ec : (((many : Int)) ≤ ((β i : Nat) : Int)) = (many ≤ β i) := propext ⟨fun z => by omega, fun z => by omega⟩
        by_cases q : many ≤ β i
        · simp [il, en, q, ec]
        · simp [q, ec]
    have ft : (List.range m).filter (fun _ => true) = List.range m := List.filter_eq_self.mpr fun _ _ => rfl
    rw [List.nil_append, ft, ← ez] at l
    have oa := o_anyA (f := fun i => decide (many ≤ β i) && decide (0 < T i (many + m))) (l := List.range m) (st := s4)
    have zz := zp_bdl hb4 (bsl m β)
    cases ea : (List.range m).any fun i => decide (many ≤ β i) && decide (0 < T i (many + m)) with
    | true =>
      obtain ⟨k, hk, hp⟩ := List.any_eq_true.mp ea
      rw [Bool.and_eq_true, decide_eq_true_eq, decide_eq_true_eq] at hp
      have hk' := List.mem_range.mp hk
      rw [ea] at oa
      have pq := prices_q (n + 2) s4 (rt := rt) Bd1 rfl (fun i hi => (b1 i hi).1) H.g
      obtain ⟨fk1, fk2⟩ := farkas Sp b1 e1 f1 low1 hk' hp.1 hp.2
      have ll : ∀ (ds : List D) (s : Sto), newL false ds s = .ok (.lst ds) s := fun _ _ => rfl
      simp only [x_ifS, x_test, x_opN, x_cons, x_nil, x_lc, x_zp, x_varS, x_var0, R.bd_ok, zz, l, ll, oa, wp_bd', wp_ok']
      simp [pq]
      refine ⟨⟨.inl ⟨fun i => sg rt i * pr m many (cost1 many (many + m)) T β i, rfl, fun i hi => ?_, fun j hj => ?_, ?_⟩, L1, T, β, run1, low1, .inl ⟨⟨k, hk', hp.1, hp.2⟩, rfl⟩⟩, g4⟩
      · have := bz_mul (sg_bz rt i) (bz_sub (Bd1.c (many + i) (by omega)) (show bz (Pg C (gi m n0) m) (gp m (cost1 many (many + m)) T β (many + i)) from gk_b Bd1 (fun i hi => (b1 i hi).1) (by omega) m (Nat.le_refl _)))
        rw [Nat.one_mul] at this
        exact this
      · rw [← sys_sum hj]
        exact fk1 j hj
      · rw [← sys_sumN (many := many) (col := col)]
        exact fk2
    | false =>
      rw [ea] at oa
      have ll : ∀ (ds : List D) (s : Sto), newL false ds s = .ok (.lst ds) s := fun _ _ => rfl
      have z : ∀ k, k < m → many ≤ β k → T k (many + m) = 0 := fun k hk hbk => by
        rw [List.any_eq_false] at ea
        have := ea k (List.mem_range.mpr hk)
        simp [hbk] at this
        have h2 := f1 k hk
        grind
      simp only [x_ifS, x_test, x_opN, x_cons, x_nil, x_lc, x_zp, x_varS, x_var0, R.bd_ok, zz, l, ll, oa, wp_bd', wp_ok']
      simp
      exact z
  rintro f s5 (⟨d, rfl, hd, hg⟩ | ⟨rfl, z, rfl⟩)
  · exact ⟨hd, hg⟩
  -- the rest
  obtain ⟨Tz, eTz⟩ : ∃ T', T' = T := ⟨T, rfl⟩
  obtain ⟨βz, eβz⟩ : ∃ β', β' = β := ⟨β, rfl⟩
  have do_ := driven_q n s5 (A := gi m n0) (C := C) (cost := cost2 many cs) (β0 := β) (by omega) (show many ≤ many + m by omega) hN hb4 ⟨b1, .refl _ _ _, f1, z, fun i hi => absurd hi (Nat.not_lt_zero i)⟩ (fun T' β' hb he => bnd _ cz2 T' β' hb (e1.trans he))
  refine wp_seq (R.wp_mono (Q := fun f s6 => ∃ (T : Bd) (β : Nat → Nat) (b : Nat) (o3 o9 : D), f = .nx [some (.lst (colD many m col)), some (.tup (rl m rt)), some cD, some o3, some (.int many), some (.int m), some (.ref b), some (.lst (rl m (sg rt))), some (.lst (bsl m β)), some o9, none, none] ∧
      Bas m (many + m) T β ∧ Fea m (many + m) T ∧ Eqv m (many + m) (sys many m col rt) T ∧ Ded m many (many + m) T β ∧ s6[b]? = some (.lst (bdl m (many + m) T)) ∧ (T, β) = drv many m (Tz, βz) ∧ Gr s1 s6) ?_ ?_)
  · simp
    refine R.wp_mono do_ fun d s6 hd => ?_
    obtain ⟨T', β', b', hI, rfl, hb', hg'⟩ := hd
    simp
    exact ⟨T', β', b', ⟨rfl, rfl⟩, hI.1.bas, hI.1.fea, e1.trans hI.1.eqv, fun k hk hbk => ⟨hI.1.zer k hk hbk, fun j hj => hI.1.don k hk hk hbk j hj⟩, hb', by rw [eTz, eβz]; exact hI.2, g4.trans hg'⟩
  rw [← eTz, ← eβz] at run1 low1 z
  clear do_ g4 hb4 e1 f1 Bd1 b1
  rintro _ s6 ⟨T2, β2, b2, o3, o9, rfl, b1, f1, e1, dd, hb6, edr, g6⟩
  have b1' := b1
  have f1' := f1
  refine wp_seq (R.wp_mono (Q := fun f s7 => s7 = s6 ∧ f = .nx [some (.lst (colD many m col)), some (.tup (rl m rt)), some cD, some (.tup (rl (many + m) (cost2 many cs))), some (.int many), some (.int m), some (.ref b2), some (.lst (rl m (sg rt))), some (.lst (bsl m β2)), some o9, none, none]) ?_ ?_)
  · have no := noughts_r (n + 5) s6 m (by omega)
    have e1 : rl many cs ++ rl m (fun _ => 0) = rl (many + m) (cost2 many cs) := by
      rw [rl_app]
      have r1 : rl many (cost2 many cs) = rl many cs := rl_congr fun j hj => by unfold cost2; rw [if_pos hj]
      have r2 : rl m (fun j => cost2 many cs (many + j)) = rl m fun _ => 0 := rl_congr fun j hj => by unfold cost2; rw [if_neg (by omega)]
      rw [r1, r2]
    have ad := opAdd_tup false (rl many cs) (rl m fun _ => 0) (s := s6) (by simp; omega)
    rw [e1] at ad
    simp [no, hT, ad]
  rintro _ s7 ⟨rfl, rfl⟩
  obtain ⟨π, hπ⟩ := H.pi
  have hs : ∀ j, many ≤ j → cost2 many cs j = 0 := fun j hj => by unfold cost2; rw [if_neg (by omega)]
  have d2 := descended_q n s7 (A := gi m n0) (C := C) (many := many) (m := m) (N := many + m) (b0 := b2) (T0 := T2) (cost := cost2 many cs) (β0 := β2) (by omega) (by omega) (by omega) (hs _ (by omega)) hb6 b1 f1
    (fun L T β hr => by
      obtain ⟨h1, h2, h3⟩ := hr.inv (by omega) b1 f1
      exact bnd _ cz2 T β h1 (e1.trans h3)) H.hL (fun L T β hr c hc hg => by
      obtain ⟨h1, h2, h3⟩ := hr.inv (by omega) b1 f1
      refine bounded (A := sys many m col rt) (π := fun i => sg rt i * π i) rfl h1 (e1.trans h3) (hr.ded dd) hs (fun j hj => ?_) hc hg
      have e2 : sm m (fun i => sys many m col rt i j * (sg rt i * π i)) = sm m (fun i => col j i * π i) := sm_congr fun i _ => by
        have := sg_sq (rt := rt) i
        rw [sys_c hj]
        grind
      rw [e2]
      unfold cost2
      rw [if_pos hj]
      exact hπ j hj)
  refine wp_seq (R.wp_mono (Q := fun f s8 => ∃ (T : Bd) (β : Nat → Nat) (b : Nat), f = .nx [some (.lst (colD many m col)), some (.tup (rl m rt)), some cD, some (.tup (rl (many + m) (cost2 many cs))), some (.int many), some (.int m), some (.ref b), some (.lst (rl m (sg rt))), some (.lst (bsl m β)), some (.lst (rl (many + m) (gp m (cost2 many cs) T β))), none, none] ∧
      Bas m (many + m) T β ∧ Fea m (many + m) T ∧ Eqv m (many + m) (sys many m col rt) T ∧ Ded m many (many + m) T β ∧ s8[b]? = some (.lst (bdl m (many + m) T)) ∧ Gr s1 s8 ∧ (∀ j, j < many → 0 ≤ gp m (cost2 many cs) T β j) ∧ ∃ L, Run m (many + m) many (cost2 many cs) T2 β2 L T β) ?_ ?_)
  · simp
    refine R.wp_mono d2 fun d s8 hd => ?_
    obtain ⟨L, T, β, b, hr, rfl, hb, hg, low⟩ := hd
    obtain ⟨h1, h2, h3⟩ := hr.inv (by omega) b1 f1
    simp
    exact ⟨T, β, b, ⟨rfl, rfl, rfl⟩, h1, h2, e1.trans h3, hr.ded dd, hb, g6.trans hg, low, L, hr⟩
  clear d2 b1 f1 e1 dd hb6 g6
  rintro _ s8 ⟨T, β, b, rfl, b1, f1, e1, dd, hb, g8, low, L2, run2⟩
  have Bd2 := bnd _ cz2 T β b1 e1
  have we := weights_q (n + 4) s8 (m := m) (N := many + m) (many := many) (by omega) (by omega) b1 hb
  have pq := fun s => prices_q (n + 2) s (rt := rt) Bd2 rfl (fun i hi => (b1 i hi).1) H.g
  obtain ⟨p1, p2, p3⟩ := optimum Sp b1 e1 f1 dd hs low
  simp [we, pq]
  refine ⟨⟨.inr ⟨wt m (many + m) T β, fun i => sg rt i * pr m many (cost2 many cs) T β i, rfl, fun i hi => ?_, fun j hj => ⟨wt_nn f1 j, wt_bz b1 (fun i hi => Bd2.t i hi _ (Nat.le_refl _)) (by have := H.n1; omega) j⟩, fun i hi => ?_, fun j hj => ?_, ?_⟩, L1, Tz, βz, run1, low1, .inr ⟨z, T2, β2, L2, T, β, edr, b1', f1', run2, low, rfl⟩⟩, g8.trans (.push _ _)⟩
  · have := bz_mul (sg_bz rt i) (bz_sub (Bd2.c (many + i) (by omega)) (show bz (Pg C (gi m n0) m) (gp m (cost2 many cs) T β (many + i)) from gk_b Bd2 (fun i hi => (b1 i hi).1) (by omega) m (Nat.le_refl _)))
    rw [Nat.one_mul] at this
    exact this
  · have h1 := p1 i hi
    rw [sys_row_sum, sys_N] at h1
    have h2 := sg_sq (rt := rt) i
    grind
  · rw [← sys_sum hj]
    have := p2 j hj
    unfold cost2 at this ⊢
    rw [if_pos hj] at this
    exact this
  · have e2 : sm many (fun j => cs j * wt m (many + m) T β j) = sm many (fun j => cost2 many cs j * wt m (many + m) T β j) := sm_congr fun j hj => by unfold cost2; rw [if_pos hj]
    rw [e2, p3, sys_sumN]
end K03
set_option maxHeartbeats 400000
set_option exponentiation.threshold 1000
namespace K03
open PySem PySem.Spec L2 Rf
/-! ### order of fractions -/
theorem qn_split (a b : Int) (hb : 0 < b) : ∃ g : Int, 0 < g ∧ a = g * (qn a b).1 ∧ b = g * (qn a b).2 := by
  have hg : 0 < Nat.gcd a.natAbs b.natAbs := Nat.gcd_pos_of_pos_right _ (by omega)
  have da : ((Nat.gcd a.natAbs b.natAbs : Nat) : Int) ∣ a := Int.ofNat_dvd_left.mpr (Nat.gcd_dvd_left _ _)
  have db : ((Nat.gcd a.natAbs b.natAbs : Nat) : Int) ∣ b := Int.ofNat_dvd_left.mpr (Nat.gcd_dvd_right _ _)
  exact ⟨_, by omega, (Int.mul_ediv_cancel' da).symm, (Int.mul_ediv_cancel' db).symm⟩
theorem ple_qn_r (p : Q) (a b : Int) (hb : 0 < b) : ple p (qn a b) = decide (p.1 * b ≤ a * p.2) := by
  obtain ⟨g, hg, e1, e2⟩ := qn_split a b hb
  unfold ple
  have q1 : p.1 * b = g * (p.1 * (qn a b).2) := by rw [Int.mul_left_comm, ← e2]
  have q2 : a * p.2 = g * ((qn a b).1 * p.2) := by rw [← Int.mul_assoc, ← e1]
  rw [q1, q2]
  exact decide_eq_decide.mpr ⟨fun h => Int.mul_le_mul_of_nonneg_left h (Int.le_of_lt hg), fun h => Int.le_of_mul_le_mul_left h hg⟩
theorem ple_qn_l (p : Q) (a b : Int) (hb : 0 < b) : ple (qn a b) p = decide (a * p.2 ≤ p.1 * b) := by
  obtain ⟨g, hg, e1, e2⟩ := qn_split a b hb
  unfold ple
  have q1 : p.1 * b = g * (p.1 * (qn a b).2) := by rw [Int.mul_left_comm, ← e2]
  have q2 : a * p.2 = g * ((qn a b).1 * p.2) := by rw [← Int.mul_assoc, ← e1]
  rw [q1, q2]
  exact decide_eq_decide.mpr ⟨fun h => Int.mul_le_mul_of_nonneg_left h (Int.le_of_lt hg), fun h => Int.le_of_mul_le_mul_left h hg⟩
theorem ple_refl (p : Q) : ple p p = true := by
  unfold ple
  exact decide_eq_true (Int.le_refl _)
theorem ple_up (p x : Q) (hp : 0 < p.2) (hx : 0 < x.2) (h : 0 ≤ x.1) : ple p (padd p x) = true := by
  unfold padd
  rw [ple_qn_r p _ _ (Int.mul_pos hp hx)]
  refine decide_eq_true ?_
  have e : (p.1 * x.2 + x.1 * p.2) * p.2 = p.1 * (p.2 * x.2) + x.1 * p.2 * p.2 := by
    rw [Int.add_mul, Int.mul_assoc, Int.mul_comm x.2]
  rw [e]
  have : 0 ≤ x.1 * p.2 * p.2 := Int.mul_nonneg (Int.mul_nonneg h (Int.le_of_lt hp)) (Int.le_of_lt hp)
  omega
theorem ple_over (p x : Q) (hp : 0 < p.2) (hx : 0 < x.2) (h : 0 < x.1) : ple (padd p x) p = false := by
  unfold padd
  rw [ple_qn_l p _ _ (Int.mul_pos hp hx)]
  refine decide_eq_false ?_
  have e : (p.1 * x.2 + x.1 * p.2) * p.2 = p.1 * (p.2 * x.2) + x.1 * p.2 * p.2 := by
    rw [Int.add_mul, Int.mul_assoc, Int.mul_comm x.2]
  rw [e]
  have : 0 < x.1 * p.2 * p.2 := Int.mul_pos (Int.mul_pos h hp) hp
  omega
theorem ple_neg (p q : Q) : ple (pneg p) (pneg q) = ple q p := by
  unfold ple pneg
  refine decide_eq_decide.mpr ?_
  simp only [Int.neg_mul]
  omega
/-! ### boxes -/
def boxW (n : Nat) : Nat → List (Q × Q) → List (List Q × Q)
  | _, [] => []
  | i, z :: zs => (unitQ (1, 1) n i, z.2) :: (unitQ (-1, 1) n i, pneg z.1) :: boxW n (i + 1) zs
theorem boxW_snoc (n : Nat) (z : Q × Q) : ∀ (zs : List (Q × Q)) (i : Nat), boxW n i (zs ++ [z]) = boxW n i zs ++ [(unitQ (1, 1) n (i + zs.length), z.2), (unitQ (-1, 1) n (i + zs.length), pneg z.1)]
  | [], i => by simp [boxW]
  | y :: zs, i => by
    have e : i + 1 + zs.length = i + (zs.length + 1) := by omega
    simp [boxW, boxW_snoc n z zs (i + 1), e]
theorem boxW_len (n : Nat) : ∀ (zs : List (Q × Q)) (i : Nat), (boxW n i zs).length = 2 * zs.length
  | [], i => rfl
  | y :: zs, i => by
    simp only [boxW, List.length_cons, boxW_len n zs (i + 1)]
    omega
theorem unitQ_len (u : Q) (n i : Nat) (h : i < n) : (unitQ u n i).length = n := by
  simp [unitQ]
  omega
theorem unitQ_mem {u : Q} {n i : Nat} {x : Q} (h : x ∈ unitQ u n i) : x = u ∨ x = (0, 1) := by
  unfold unitQ at h
  rcases List.mem_append.mp h with h | h
  · exact .inr (List.eq_of_mem_replicate h)
  · rcases List.mem_cons.mp h with h | h
    · exact .inl h
    · exact .inr (List.eq_of_mem_replicate h)
/-- within one's span -/
def inS (z : Q × Q) (y : Q) : Bool := ple y z.2 && ple z.1 y
/-! ### values -/
theorem vl_nq (x : Rat) : vl (nq x) = x := x_eq x
theorem int_ne {a : Int} (h : 0 < a) : (a : Rat) ≠ 0 := fun z => by
  rw [Rat.intCast_eq_zero_iff] at z
  omega
theorem vl_padd {p q : Q} (hp : 0 < p.2) (hq : 0 < q.2) : vl (padd p q) = vl p + vl q := by
  unfold padd
  rw [qn_nq (Int.mul_pos hp hq), vl_nq]
  have h1 := int_ne hp
  have h2 := int_ne hq
  unfold vl
  rw [Rat.intCast_add, Rat.intCast_mul, Rat.intCast_mul, Rat.intCast_mul]
  have h3 : (p.2 : Rat) * (q.2 : Rat) ≠ 0 := fun z => by rcases Rat.mul_eq_zero.mp z with h | h <;> contradiction
  grind
theorem vl_pmul {p q : Q} (hp : 0 < p.2) (hq : 0 < q.2) : vl (pmul p q) = vl p * vl q := by
  unfold pmul
  rw [qn_nq (Int.mul_pos hp hq), vl_nq]
  have h1 := int_ne hp
  have h2 := int_ne hq
  unfold vl
  rw [Rat.intCast_mul, Rat.intCast_mul]
  have h3 : (p.2 : Rat) * (q.2 : Rat) ≠ 0 := fun z => by rcases Rat.mul_eq_zero.mp z with h | h <;> contradiction
  grind
theorem vl_pneg {p : Q} (hp : 0 < p.2) : vl (pneg p) = -vl p := by
  have h1 := int_ne hp
  unfold vl pneg
  rw [Rat.intCast_neg]
  grind
/-- over one denominator -/
def Ov (D K : Nat) (x : Rat) : Prop := ∃ k : Int, x = (k : Rat) / ((D : Int) : Rat) ∧ k.natAbs ≤ K
theorem ov_add {D K L : Nat} {x y : Rat} (hx : Ov D K x) (hy : Ov D L y) : Ov D (K + L) (x + y) := by
  obtain ⟨a, rfl, h1⟩ := hx
  obtain ⟨b, rfl, h2⟩ := hy
  refine ⟨a + b, ?_, by omega⟩
  rw [Rat.intCast_add]
  grind
theorem ov_neg {D K : Nat} {x : Rat} (hx : Ov D K x) : Ov D K (-x) := by
  obtain ⟨a, rfl, h1⟩ := hx
  refine ⟨-a, ?_, by omega⟩
  rw [Rat.intCast_neg]
  grind
theorem ov_mul {D E K L : Nat} (hD : 0 < D) (hE : 0 < E) {x y : Rat} (hx : Ov D K x) (hy : Ov E L y) : Ov (D * E) (K * L) (x * y) := by
  obtain ⟨a, rfl, h1⟩ := hx
  obtain ⟨b, rfl, h2⟩ := hy
  refine ⟨a * b, ?_, by rw [Int.natAbs_mul]; exact Nat.mul_le_mul h1 h2⟩
  have e1 := int_ne (show (0 : Int) < (D : Int) by omega)
  have e2 := int_ne (show (0 : Int) < (E : Int) by omega)
  rw [Rat.intCast_mul, show (((D * E : Nat) : Int)) = (D : Int) * (E : Int) by simp, Rat.intCast_mul]
  have h3 : (((D : Int)) : Rat) * (((E : Int)) : Rat) ≠ 0 := fun z => by rcases Rat.mul_eq_zero.mp z with h | h <;> contradiction
  grind
theorem ov_up {D K : Nat} (e : Nat) (hD : 0 < D) (he : 0 < e) {x : Rat} (hx : Ov D K x) : Ov (D * e) (K * e) x := by
  have h1 : Ov e e 1 := ⟨e, by have := int_ne (show (0 : Int) < (e : Int) by omega); grind, by simp⟩
  have := ov_mul hD he hx h1
  rwa [Rat.mul_one] at this
theorem ov_mono {D K L : Nat} (h : K ≤ L) {x : Rat} (hx : Ov D K x) : Ov D L x := by
  obtain ⟨a, h1, h2⟩ := hx
  exact ⟨a, h1, by omega⟩
theorem ov_0 (D K : Nat) : Ov D K 0 := ⟨0, by rw [show ((0 : Int) : Rat) = 0 from rfl]; grind, by simp⟩
theorem ov_12 {p : Q} {A : Nat} (hp : 0 < p.2) (h4 : p.2 ≤ 4) (h : p.1.natAbs ≤ A) : Ov 12 (12 * A) (vl p) := by
  obtain ⟨a, b⟩ := p
  dsimp only at hp h4 h
  have : b = 1 ∨ b = 2 ∨ b = 3 ∨ b = 4 := by omega
  unfold vl
  rcases this with rfl | rfl | rfl | rfl
  · exact ⟨12 * a, by rw [Rat.intCast_mul]; simp; grind, by omega⟩
  · exact ⟨6 * a, by rw [Rat.intCast_mul]; simp; grind, by omega⟩
  · exact ⟨4 * a, by rw [Rat.intCast_mul]; simp; grind, by omega⟩
  · exact ⟨3 * a, by rw [Rat.intCast_mul]; simp; grind, by omega⟩
def spOk (z : Q × Q) : Prop := gd z.1 ∧ gd z.2 ∧ bq 10 z.1 ∧ bq 100 z.2 ∧ ple z.1 z.2 = true ∧ Ov 12 180 (vl z.1) ∧ Ov 12 180 (vl z.2)
theorem boxW_ok (n : Nat) : ∀ (zs : List (Q × Q)) (i : Nat), (∀ z ∈ zs, spOk z) → i + zs.length ≤ n → ∀ w ∈ boxW n i zs, okW n w ∧ (∀ x ∈ w.1, bq 1 x) ∧ bq 100 w.2
  | [], i, _, _, w, hw => by simp [boxW] at hw
  | z :: zs, i, h, hn, w, hw => by
    obtain ⟨h1, h2, h3, h4, h5⟩ := h z (.head _)
    simp only [List.length_cons] at hn
    have hu : ∀ u : Q, (u = (1, 1) ∨ u = (-1, 1)) → ∀ x ∈ unitQ u n i, gd x ∧ bq 1 x := fun u hu x hx => by
      rcases unitQ_mem hx with rfl | rfl
      · rcases hu with rfl | rfl <;> exact ⟨⟨by decide, by decide⟩, by decide, by decide, by decide⟩
      · exact ⟨⟨by decide, by decide⟩, by decide, by decide, by decide⟩
    simp only [boxW, List.mem_cons] at hw
    rcases hw with rfl | rfl | hw
    · exact ⟨⟨by rw [unitQ_len _ _ _ (by omega)], fun x hx => (hu _ (.inl rfl) x hx).1, h2⟩, fun x hx => (hu _ (.inl rfl) x hx).2, h4⟩
    · exact ⟨⟨by rw [unitQ_len _ _ _ (by omega)], fun x hx => (hu _ (.inr rfl) x hx).1, pneg_gd h1⟩, fun x hx => (hu _ (.inr rfl) x hx).2, ⟨h3.1, by have := h3.2.1; simp [pneg]; omega, by have := h3.2.2; simp [pneg]; omega⟩⟩
    · exact boxW_ok n zs (i + 1) (fun z hz => h z (.tail _ hz)) (by omega) w hw
theorem unit_range (u : Q) (n i : Nat) (h : i < n) (f : D → D) (hf : ∀ j : Nat, f (.int (0 + (j : Nat))) = if j = i then qd u else qd (0, 1)) : (rgI 0 (n : Int)).map f = (unitQ u n i).map qd := by
  unfold rgI
  have e0 : ((n : Int) - 0).toNat = n := by omega
  rw [e0, List.map_map]
  refine List.ext_getElem (by simp [unitQ]; omega) fun j h1 h2 => ?_
  simp only [List.getElem_map, Function.comp, List.getElem_range, hf, unitQ]
  by_cases c : j < i
  · rw [List.getElem_append_left (by simpa using c)]
    simp
    omega
  · by_cases c2 : j = i
    · subst c2
      simp
    · rw [List.getElem_append_right (by simp; omega)]
      simp only [List.length_replicate]
      obtain ⟨m, hm⟩ : ∃ m, j - i = m + 1 := ⟨j - i - 1, by omega⟩
      simp [c2, hm]
theorem opMul_one (x : D) (k : Int) (s : Sto) (h : 0 ≤ k ∧ k ≤ 1000) : opMul false (.tup [x]) (.int k) s = .ok (.tup (List.replicate k.toNat x)) s := by
  have e : (List.replicate k.toNat [x]).flatten = List.replicate k.toNat x := by
    induction k.toNat with
    | zero => rfl
    | succ n ih => rw [List.replicate_succ, List.replicate_succ, List.flatten_cons, ih]; rfl
  show (if [x].length ≤ 1000 ∧ k ≤ 1000 ∧ -1000 ≤ k then R.ok (D.tup (List.replicate k.toNat [x]).flatten) s else .bad) = _
  rw [if_pos ⟨by simp, by omega, by omega⟩, e]
def allSp (zs : List (Q × Q)) : Prop := ∀ z ∈ zs, spOk z
def sd (z : Q × Q) : D := .tup [qd z.1, qd z.2]
/-- numbers from k on, so many -/
def numsF (k m : Nat) : List D := (List.range' k m).map fun i => .int ((i : Nat) : Int)
theorem numsF_rg (n : Nat) : rgI 0 (n : Int) = numsF 0 n := by
  unfold rgI numsF
  have e0 : ((n : Int) - 0).toNat = n := by omega
  rw [e0, List.range_eq_range']
  simp
theorem numsF_s (k m : Nat) : numsF k (m + 1) = .int ((k : Nat) : Int) :: numsF (k + 1) m := by simp [numsF, List.range'_succ]
theorem enumD_map {α : Type} (f : α → D) (x : α) (xs : List α) (k : Nat) : enumD k ((x :: xs).map f) = .tup [.int ((k : Nat) : Int), f x] :: enumD (k + 1) (xs.map f) := rfl
end K03
set_option maxHeartbeats 400000
set_option exponentiation.threshold 9000
namespace K03
open PySem PySem.Spec L2 Rf Lp
/-! ### rows and lots, as rationals -/
def fR (r : List Q) (i : Nat) : Rat := vl (r.getD i (0, 1))
def RW (ws : List W) (j i : Nat) : Rat := fR (ws.getD j ([], (0, 1))).1 i
def BW (ws : List W) (j : Nat) : Rat := vl (ws.getD j ([], (0, 1))).2
theorem getD_at {α : Type} {l : List α} {i : Nat} {d x : α} (h : l[i]? = some x) : l.getD i d = x := by
  rw [List.getD_eq_getElem?_getD, h]
  rfl
theorem fR_at {r : List Q} {i : Nat} {x : Q} (h : r[i]? = some x) : fR r i = vl x := by
  unfold fR
  rw [getD_at h]
theorem map_rl {r : List Q} (h : ∀ x ∈ r, gd x) : r.map qd = rl r.length (fR r) := by
  apply List.ext_getElem?
  intro i
  rw [List.getElem?_map]
  cases e : r[i]? with
  | none =>
    have := List.getElem?_eq_none_iff.mp e
    rw [List.getElem?_eq_none_iff.mpr (by rw [rl_len]; exact this)]
    rfl
  | some x =>
    have hi := (List.getElem?_eq_some_iff.mp e).1
    rw [rl_get hi, fR_at e]
    show some (qd x) = some (qd (nq (vl x)))
    rw [← gd_nq (h x (List.mem_of_getElem? e))]
theorem rd_rl {r : List Q} (h : ∀ x ∈ r, gd x) : rd r = .tup (rl r.length (fR r)) := congrArg D.tup (map_rl h)
/-- a row told by a function, as fractions -/
def lq (n : Nat) (f : Nat → Rat) : List Q := (List.range n).map fun i => nq (f i)
theorem lq_rl (n : Nat) (f : Nat → Rat) : (lq n f).map qd = rl n f := by
  unfold lq rl
  rw [List.map_map]
  rfl
theorem lq_rd (n : Nat) (f : Nat → Rat) : rd (lq n f) = .tup (rl n f) := congrArg D.tup (lq_rl n f)
@[simp] theorem lq_len (n : Nat) (f : Nat → Rat) : (lq n f).length = n := by simp [lq]
theorem lq_gd {n : Nat} {f : Nat → Rat} : ∀ x ∈ lq n f, gd x := fun x hx => by
  obtain ⟨i, _, rfl⟩ := List.mem_map.mp hx
  exact nq_gd _
theorem lq_bq {n A : Nat} {f : Nat → Rat} (h : ∀ i, i < n → bz A (f i)) : ∀ x ∈ lq n f, bq A x := fun x hx => by
  obtain ⟨i, hi, rfl⟩ := List.mem_map.mp hx
  exact bz_bq.mp (h i (List.mem_range.mp hi))
theorem lq_fR {n i : Nat} {f : Nat → Rat} (hi : i < n) : fR (lq n f) i = f i := by
  have : (lq n f)[i]? = some (nq (f i)) := by
    unfold lq
    rw [List.getElem?_map, List.getElem?_range hi]
    rfl
  rw [fR_at this, vl_nq]
theorem row_ext {n : Nat} {r q : List Q} (hr : ∀ x ∈ r, gd x) (hq : ∀ x ∈ q, gd x) (h1 : r.length = n) (h2 : q.length = n) (h : ∀ i, i < n → fR r i = fR q i) : r = q := by
  apply List.ext_getElem?
  intro i
  by_cases hi : i < n
  · have e1 := List.getElem?_eq_getElem (show i < r.length by omega)
    have e2 := List.getElem?_eq_getElem (show i < q.length by omega)
    have := h i hi
    rw [fR_at e1, fR_at e2] at this
    rw [e1, e2, gd_nq (hr _ (List.getElem_mem _)), gd_nq (hq _ (List.getElem_mem _)), this]
  · rw [List.getElem?_eq_none_iff.mpr (by omega), List.getElem?_eq_none_iff.mpr (by omega)]
/-! ### sums -/
theorem sm_succ' (n : Nat) (f : Nat → Rat) : sm (n + 1) f = f 0 + sm n (fun i => f (i + 1)) := by
  induction n with
  | zero => simp only [sm]; grind
  | succ n ih =>
    have e : sm (n + 1 + 1) f = sm (n + 1) f + f (n + 1) := rfl
    rw [e, ih]
    simp only [sm]
    grind
theorem sm_cut (a b : Nat) (f : Nat → Rat) : sm (a + b) f = sm a f + sm b (fun j => f (a + j)) := by
  induction b with
  | zero => simp only [sm]; rw [Nat.add_zero]; grind
  | succ b ih =>
    show sm (a + b) f + f (a + b) = _
    rw [ih]
    simp only [sm]
    grind
theorem sm_two (n : Nat) (f : Nat → Rat) : sm (2 * n) f = sm n (fun a => f (2 * a) + f (2 * a + 1)) := by
  induction n with
  | zero => rfl
  | succ n ih =>
    have e : sm (2 * (n + 1)) f = sm (2 * n) f + f (2 * n) + f (2 * n + 1) := rfl
    rw [e, ih]
    simp only [sm]
    grind
theorem vl_dotA : ∀ (xs ys : List Q) (acc : Q), 0 < acc.2 → (∀ x ∈ xs, 0 < x.2) → (∀ y ∈ ys, 0 < y.2) → xs.length = ys.length → vl (dotA acc xs ys) = vl acc + sm ys.length (fun j => fR xs j * fR ys j) ∧ 0 < (dotA acc xs ys).2
  | [], [], acc, h, _, _, _ => by
    show vl acc = _ ∧ _
    exact ⟨by simp only [List.length_nil, sm]; grind, h⟩
  | [], _ :: _, acc, _, _, _, hl => by simp at hl
  | _ :: _, [], acc, _, _, _, hl => by simp at hl
  | x :: xs, y :: ys, acc, h, hx, hy, hl => by
    have px := hx x (.head _)
    have py := hy y (.head _)
    have pm : 0 < (pmul x y).2 := (pmul_gd px py).1
    obtain ⟨i1, i2⟩ := vl_dotA xs ys (padd acc (pmul x y)) (padd_gd h pm).1 (fun x h => hx x (.tail _ h)) (fun y h => hy y (.tail _ h)) (by simpa using hl)
    refine ⟨?_, i2⟩
    show vl (dotA (padd acc (pmul x y)) xs ys) = _
    rw [i1, vl_padd h pm, vl_pmul px py, List.length_cons, sm_succ']
    have e0 : fR (x :: xs) 0 * fR (y :: ys) 0 = vl x * vl y := rfl
    have e1 : (fun i => fR (x :: xs) (i + 1) * fR (y :: ys) (i + 1)) = fun i => fR xs i * fR ys i := rfl
    rw [e0, e1]
    grind
theorem vl_0 : vl (0, 1) = 0 := by decide +kernel
theorem vl_1 : vl (1, 1) = 1 := by decide +kernel
theorem vl_n1 : vl (-1, 1) = -1 := by decide +kernel
theorem fR_map {ws : List W} {j : Nat} (hj : j < ws.length) : fR (ws.map (·.2)) j = BW ws j := by
  have e := List.getElem?_eq_getElem hj
  have : (ws.map (·.2))[j]? = some ws[j].2 := by rw [List.getElem?_map, e]; rfl
  rw [fR_at this]
  unfold BW
  rw [getD_at e]
theorem reach_vl {m : Nat} {ws : List W} (h : LotOk m ws) {qs : List Q} (hq : ∀ x ∈ qs, gd x) (hl : qs.length = ws.length) : vl (reach ws qs) = sm ws.length (fun j => fR qs j * BW ws j) := by
  have := (vl_dotA qs (ws.map (·.2)) (0, 1) (by decide) (fun x hx => (hq x hx).1) (fun y hy => (h.bounds y hy).1) (by simpa using hl)).1
  unfold reach dotQ
  rw [this, vl_0, List.length_map]
  have e : sm ws.length (fun j => fR qs j * fR (ws.map (·.2)) j) = sm ws.length (fun j => fR qs j * BW ws j) := sm_congr fun j hj => by rw [fR_map hj]
  rw [e]
  grind
theorem made_is {m : Nat} {ws : List W} (h : LotOk m ws) {qs row : List Q} (hq : ∀ x ∈ qs, gd x) (hl : qs.length = ws.length) (hr : ∀ x ∈ row, gd x) (hrl : row.length = m) (hv : ∀ i, i < m → sm ws.length (fun j => fR qs j * RW ws j i) = fR row i) : made m ws qs = row := by
  have e : made m ws qs = (List.range m).map fun i => dotA ((List.replicate m ((0, 1) : Q)).getD i (0, 1)) qs ((ws.map (·.1)).map fun r => r.getD i (0, 1)) := by
    unfold made
    exact mixA_eq m (ws.map (·.1)) qs (List.replicate m (0, 1)) (by simp) fun r hr => (h.rows r hr).1
  have gdm : ∀ i, i < m → ∀ y ∈ (ws.map (·.1)).map (fun r => r.getD i (0, 1)), gd y := fun i hi y hy => by
    obtain ⟨r, hr, rfl⟩ := List.mem_map.mp hy
    obtain ⟨w, hw, rfl⟩ := List.mem_map.mp hr
    have hlw := (h.w w hw).1
    rw [getD_at (List.getElem?_eq_getElem (show i < w.1.length by omega))]
    exact ((h.w w hw).2.1 _ (List.getElem_mem _)).1
  have g0 : ∀ i, i < m → (List.replicate m ((0, 1) : Q)).getD i (0, 1) = (0, 1) := fun i hi => getD_at (by rw [List.getElem?_replicate, if_pos hi])
  refine row_ext (n := m) ?_ hr (by rw [e]; simp) hrl fun i hi => ?_
  · rw [e]
    intro x hx
    obtain ⟨i, hi, rfl⟩ := List.mem_map.mp hx
    have hi' := List.mem_range.mp hi
    rw [g0 i hi']
    exact dotQ_gd (fun x hx => (hq x hx).1) fun y hy => (gdm i hi' y hy).1
  · have : (made m ws qs)[i]? = some (dotA (0, 1) qs ((ws.map (·.1)).map fun r => r.getD i (0, 1))) := by
      rw [e, List.getElem?_map, List.getElem?_range hi]
      show some (dotA ((List.replicate m ((0, 1) : Q)).getD i (0, 1)) qs _) = _
      rw [g0 i hi]
    rw [fR_at this, (vl_dotA _ _ (0, 1) (by decide) (fun x hx => (hq x hx).1) (fun y hy => (gdm i hi y hy).1) (by simpa using hl)).1, vl_0, ← hv i hi, List.length_map, List.length_map]
    have e2 : sm ws.length (fun j => fR qs j * fR ((ws.map (·.1)).map fun r => r.getD i (0, 1)) j) = sm ws.length (fun j => fR qs j * RW ws j i) := sm_congr fun j hj => by
      have e3 := List.getElem?_eq_getElem hj
      have : ((ws.map (·.1)).map fun r => r.getD i ((0, 1) : Q))[j]? = some (ws[j].1.getD i (0, 1)) := by rw [List.getElem?_map, List.getElem?_map, e3]; rfl
      rw [fR_at this]
      unfold RW
      rw [getD_at e3]
      rfl
    rw [e2]
    grind
/-- a paper, judged by values -/
theorem okWt_lq {k : Nat} {f : Nat → Rat} (h : ∀ j, j < k → 0 ≤ f j) : okWt k (rd (lq k f)) = true := by
  unfold okWt
  rw [Bool.and_eq_true]
  refine ⟨?_, ?_⟩
  · unfold isRow rd
    simp only [Bool.and_eq_true, decide_eq_true_eq, List.all_eq_true]
    refine ⟨by simp, fun d hd => ?_⟩
    obtain ⟨x, hx, rfl⟩ := List.mem_map.mp hd
    exact isRat_qd (lq_gd x hx)
  · rw [qsD_rd, List.all_eq_true]
    intro x hx
    obtain ⟨j, hj, rfl⟩ := List.mem_map.mp hx
    exact decide_eq_true (num_nn.mpr (h j (List.mem_range.mp hj)))
theorem ple_vl {p q : Q} (hp : gd p) (hq : gd q) : ple p q = decide (vl p ≤ vl q) := by
  rw [gd_nq hp, gd_nq hq, nq_le, vl_nq, vl_nq]
theorem judge_is {m : Nat} {ws : List W} (h : LotOk m ws) {row : List Q} {bd : Q} {f : Nat → Rat} (hr : ∀ x ∈ row, gd x) (hrl : row.length = m) (hb : gd bd) (h0 : ∀ j, j < ws.length → 0 ≤ f j)
    (hv : ∀ i, i < m → sm ws.length (fun j => f j * RW ws j i) = fR row i) : judge m ws row bd (.tup [.str "bound", rd (lq ws.length f)]) = decide (sm ws.length (fun j => f j * BW ws j) ≤ vl bd) := by
  have ew := okWt_lq h0
  rw [judge_b ew]
  have mm := made_is h (qs := lq ws.length f) lq_gd (by simp) hr hrl fun i hi => by
    rw [← hv i hi]
    exact sm_congr fun j hj => by rw [lq_fR hj]
  have rr := reach_vl h (qs := lq ws.length f) lq_gd (by simp)
  have e : sm ws.length (fun j => fR (lq ws.length f) j * BW ws j) = sm ws.length (fun j => f j * BW ws j) := sm_congr fun j hj => by rw [lq_fR hj]
  rw [e] at rr
  rw [mm, decide_eq_true rfl, Bool.true_and, ← rr]
  exact ple_vl (dotQ_gd (fun x hx => (lq_gd x hx).1) fun y hy => (h.bounds y hy).1) hb
end K03
set_option maxHeartbeats 400000
set_option exponentiation.threshold 9000
namespace K03
open PySem PySem.Spec L2 Rf Lp
/-! ### sizes of the two systems -/
theorem sz_of_ov {n0 m N : Nat} {T : Bd} (h : ∀ i, i < m → ∃ D, 0 < D ∧ D ≤ n0 ∧ ∀ j, j ≤ N → Ov D n0 (T i j)) : Sz n0 m N T := fun i hi => by
  obtain ⟨D, h1, h2, h3⟩ := h i hi
  refine ⟨D, fun j => if hj : j ≤ N then Classical.choose (h3 j hj) else 0, h1, h2, fun j hj => ?_⟩
  have := Classical.choose_spec (h3 j hj)
  dsimp only
  rw [dif_pos hj]
  refine ⟨this.2, ?_⟩
  rw [← nat_int]
  exact this.1
theorem ov_bz {D K n0 : Nat} {x : Rat} (h : Ov D K x) (hD : 0 < D) (h1 : D ≤ n0) (h2 : K ≤ n0) : bz n0 x := by
  obtain ⟨a, rfl, h3⟩ := h
  rw [nat_int]
  exact frac_bz hD (by omega) h1
theorem ov_sg {D K : Nat} {x : Rat} (h : Ov D K x) (rt : Nat → Rat) (i : Nat) : Ov D K (x * sg rt i) := by
  unfold sg
  split
  · have := ov_neg h
    rwa [show x * -1 = -x by grind]
  · rwa [Rat.mul_one]
theorem ov_1 {D : Nat} (hD : 0 < D) : Ov D D 1 := ⟨D, by have := int_ne (show (0 : Int) < (D : Int) by omega); grind, by simp⟩
theorem ov_dl {D : Nat} (hD : 0 < D) (a b : Nat) : Ov D D (dl a b) := by
  unfold dl
  split
  · exact ov_1 hD
  · exact ov_0 _ _
theorem ov_sys {many m D K : Nat} {col : Nat → Nat → Rat} {rt : Nat → Rat} {i : Nat} (hD : 0 < D) (hK : D ≤ K) (hc : ∀ j, j < many → Ov D K (col j i)) (hr : Ov D K (rt i)) (j : Nat) : Ov D K (sys many m col rt i j) := by
  unfold sys
  split
  · exact ov_sg (hc j (by assumption)) _ _
  · split
    · exact ov_mono hK (ov_dl hD _ _)
    · exact ov_sg hr _ _
theorem det {F : Sto → R D} {P : D → Prop} (h : ∀ s, (F s).wp fun d s' => P d ∧ Gr s s') (u : ∀ d d', P d → P d' → d = d') : ∃ d0, P d0 ∧ ∀ s, (F s).wp fun d s' => d = d0 ∧ Gr s s' := by
  have h0 := h []
  cases e : F [] with
  | ok d s' =>
    rw [e] at h0
    refine ⟨d, h0.1, fun s => R.wp_mono (h s) fun d' s'' q => ⟨u _ _ q.1 h0.1, q.2⟩⟩
  | ex => rw [e] at h0; exact h0.elim
  | bad => rw [e] at h0; exact h0.elim
/-- a lot, not void, not without end, and its greatest -/
structure Lt (n : Nat) (ws : List W) (rw : Nat → Rat) (best : Rat) : Prop where
  n1 : 1 ≤ n ∧ n ≤ 4
  k1 : 1 ≤ ws.length ∧ ws.length ≤ 8
  feas : ∃ c : Nat → Rat, (∀ w ∈ ws, sm n (fun i => fR w.1 i * c i) ≤ vl w.2) ∧ sm n (fun i => rw i * c i) = best
  weak : ∀ y : Nat → Rat, (∀ w ∈ ws, sm n (fun i => fR w.1 i * y i) ≤ vl w.2) → sm n (fun i => rw i * y i) ≤ best
  ray : ∀ y r : Nat → Rat, (∀ w ∈ ws, sm n (fun i => fR w.1 i * y i) ≤ 0) → ¬ 0 < sm n (fun i => r i * y i)
  oR : ∀ w ∈ ws, ∀ i, i < n → Ov 12 240 (fR w.1 i)
  oB : ∀ w ∈ ws, Ov 144 57600 (vl w.2)
  oW : ∀ i, i < n → Ov 12 120 (rw i)
  oT : bz (10 ^ 14) best
section
variable {n : Nat} {ws : List W} {rw : Nat → Rat} {best : Rat}
theorem at_w {j : Nat} (hj : j < ws.length) : ∃ w, w ∈ ws ∧ (∀ i, RW ws j i = fR w.1 i) ∧ BW ws j = vl w.2 := by
  have e := List.getElem?_eq_getElem hj
  refine ⟨ws[j], List.getElem_mem _, fun i => ?_, ?_⟩
  · unfold RW; rw [getD_at e]
  · unfold BW; rw [getD_at e]
theorem w_at {w : W} (hw : w ∈ ws) : ∃ j, j < ws.length ∧ (∀ i, RW ws j i = fR w.1 i) ∧ BW ws j = vl w.2 := by
  obtain ⟨j, e⟩ := List.mem_iff_getElem?.mp hw
  refine ⟨j, (List.getElem?_eq_some_iff.mp e).1, fun i => ?_, ?_⟩
  · unfold RW; rw [getD_at e]
  · unfold BW; rw [getD_at e]
theorem all_w {y : Nat → Rat} {g : Rat → Rat} (h : ∀ j, j < ws.length → sm n (fun i => RW ws j i * y i) ≤ g (BW ws j)) : ∀ w ∈ ws, sm n (fun i => fR w.1 i * y i) ≤ g (vl w.2) := fun w hw => by
  obtain ⟨j, hj, e1, e2⟩ := w_at hw
  have := h j hj
  rw [e2] at this
  have e : sm n (fun i => RW ws j i * y i) = sm n (fun i => fR w.1 i * y i) := sm_congr fun i _ => by rw [e1]
  rw [e] at this
  exact this
theorem w_all {y : Nat → Rat} (h : ∀ w ∈ ws, sm n (fun i => fR w.1 i * y i) ≤ vl w.2) {j : Nat} (hj : j < ws.length) : sm n (fun i => RW ws j i * y i) ≤ BW ws j := by
  obtain ⟨w, hw, e1, e2⟩ := at_w hj
  have e : sm n (fun i => RW ws j i * y i) = sm n (fun i => fR w.1 i * y i) := sm_congr fun i _ => by rw [e1]
  rw [e, e2]
  exact h w hw
theorem Lt.ovR (B : Lt n ws rw best) {j i : Nat} (hj : j < ws.length) (hi : i < n) : Ov 12 240 (RW ws j i) := by
  obtain ⟨w, hw, e1, e2⟩ := at_w hj
  rw [e1]
  exact B.oR w hw i hi
theorem Lt.ovB (B : Lt n ws rw best) {j : Nat} (hj : j < ws.length) : Ov 144 57600 (BW ws j) := by
  obtain ⟨w, hw, e1, e2⟩ := at_w hj
  rw [e2]
  exact B.oB w hw
theorem Lt.low (B : Lt n ws rw best) {lam c : Nat → Rat} (h0 : ∀ j, j < ws.length → 0 ≤ lam j) (hc : ∀ w ∈ ws, sm n (fun i => fR w.1 i * c i) ≤ vl w.2) : sm n (fun i => c i * sm ws.length (fun j => RW ws j i * lam j)) ≤ sm ws.length (fun j => BW ws j * lam j) := by
  have e1 : sm n (fun i => c i * sm ws.length (fun j => RW ws j i * lam j)) = sm n (fun i => sm ws.length (fun j => lam j * (RW ws j i * c i))) := sm_congr fun i _ => by
    rw [← sm_mul]
    exact sm_congr fun j _ => by grind
  rw [e1, sm_comm]
  refine sm_le _ _ _ fun j hj => ?_
  rw [sm_mul]
  have := Rat.mul_le_mul_of_nonneg_left (w_all hc hj) (h0 j hj)
  grind
theorem Lt.void_no (B : Lt n ws rw best) {lam : Nat → Rat} (h0 : ∀ j, j < ws.length → 0 ≤ lam j) (h1 : ∀ i, i < n → sm ws.length (fun j => RW ws j i * lam j) = 0) (h2 : sm ws.length (fun j => BW ws j * lam j) = -1) : False := by
  obtain ⟨c, hc, -⟩ := B.feas
  have := B.low h0 hc
  rw [sm_none n _ fun i hi => by rw [h1 i hi]; grind, h2] at this
  grind
theorem Lt.unb_no (B : Lt n ws rw best) {y r : Nat → Rat} (h1 : ∀ j, j < ws.length → sm n (fun i => RW ws j i * y i) ≤ 0) (h2 : 0 < sm n (fun i => r i * y i)) : False :=
  B.ray y r (all_w (g := fun _ => 0) h1) h2
theorem Lt.opt (B : Lt n ws rw best) {lam y : Nat → Rat} (h0 : ∀ j, j < ws.length → 0 ≤ lam j) (h1 : ∀ i, i < n → sm ws.length (fun j => RW ws j i * lam j) = rw i) (h2 : ∀ j, j < ws.length → sm n (fun i => RW ws j i * y i) ≤ BW ws j)
    (h3 : sm ws.length (fun j => BW ws j * lam j) = sm n (fun i => rw i * y i)) : sm ws.length (fun j => BW ws j * lam j) = best := by
  obtain ⟨c, hc, hb⟩ := B.feas
  have q1 := B.weak y (all_w (g := fun x => x) h2)
  have q2 := B.low h0 hc
  have e1 : sm n (fun i => c i * sm ws.length (fun j => RW ws j i * lam j)) = best := by
    rw [← hb]
    exact sm_congr fun i hi => by rw [h1 i hi]; grind
  rw [e1] at q2
  grind
def colV (n : Nat) (ws : List W) (j i : Nat) : Rat := if i < n then RW ws j i else BW ws j
def rtV (n i : Nat) : Rat := if i < n then 0 else -1
theorem pow_ok {k m : Nat} (h : k + m ≤ 13) (hm : m ≤ 5) : (k + m) ^ m < 1000000 := by
  have h1 : (k + m) ^ m ≤ 13 ^ m := Nat.pow_le_pow_left h m
  have h2 : 13 ^ m ≤ 13 ^ 5 := Nat.pow_le_pow_right (by omega) hm
  have h3 : 13 ^ 5 < 1000000 := by decide
  omega
theorem Lt.okV (B : Lt n ws rw best) : LbOk ws.length (n + 1) 57600 1 (colV n ws) (rtV n) (fun _ => 0) := by
  have k1 := B.k1
  have n1 := B.n1
  have cR : ∀ i, i < n → ∀ j, j < ws.length → Ov 12 57600 (colV n ws j i) := fun i hi j hj => by
    unfold colV
    rw [if_pos hi]
    exact ov_mono (by omega) (B.ovR hj hi)
  have cB : ∀ j, j < ws.length → Ov 144 57600 (colV n ws j n) := fun j hj => by
    unfold colV
    rw [if_neg (by omega)]
    exact B.ovB hj
  have rR : ∀ i, i < n → Ov 12 57600 (rtV n i) := fun i hi => by
    unfold rtV
    rw [if_pos hi]
    exact ov_0 _ _
  have rB : Ov 144 57600 (rtV n n) := by
    unfold rtV
    rw [if_neg (by omega)]
    exact ov_mono (by omega) (ov_neg (ov_1 (D := 144) (by omega)))
  refine ⟨by omega, pow_ok (by omega) (by omega), by omega, Nat.le_refl _, sz_of_ov fun i hi => ?_, fun _ _ => bz_0, fun j hj i hi => ?_, fun i hi => ?_, ?_, ?_, ⟨fun _ => 0, fun j hj => ?_⟩⟩
  · by_cases q : i < n
    · exact ⟨12, by omega, by omega, fun j _ => ov_sys (by omega) (by omega) (cR i q) (rR i q) j⟩
    · have : i = n := by omega
      subst this
      exact ⟨144, by omega, by omega, fun j _ => ov_sys (by omega) (by omega) cB rB j⟩
  · by_cases q : i < n
    · exact ov_bz (cR i q j hj) (by omega) (by omega) (by omega)
    · have : i = n := by omega
      subst this
      exact ov_bz (cB j hj) (by omega) (by omega) (by omega)
  · by_cases q : i < n
    · exact ov_bz (rR i q) (by omega) (by omega) (by omega)
    · have : i = n := by omega
      subst this
      exact ov_bz rB (by omega) (by omega) (by omega)
  · have : n = 1 ∨ n = 2 ∨ n = 3 ∨ n = 4 := by omega
    rcases this with h | h | h | h <;> rw [h] <;> exact le_bg (by decide +kernel)
  · have : n = 1 ∨ n = 2 ∨ n = 3 ∨ n = 4 := by omega
    rcases this with h | h | h | h <;> rw [h] <;> exact le_bg (by decide +kernel)
  · rw [sm_none _ _ fun i _ => by grind]
    exact Rat.le_refl
theorem Lt.okG (B : Lt n ws rw best) : LbOk ws.length n 240 57600 (RW ws) rw (BW ws) := by
  have k1 := B.k1
  have n1 := B.n1
  obtain ⟨c, hc, -⟩ := B.feas
  refine ⟨by omega, pow_ok (by omega) (by omega), by omega, by omega, sz_of_ov fun i hi => ⟨12, by omega, by omega, fun j _ => ov_sys (by omega) (by omega) (fun j hj => B.ovR hj hi) (ov_mono (by omega) (B.oW i hi)) j⟩, fun j hj => ov_bz (B.ovB hj) (by omega) (by omega) (by omega), fun j hj i hi => ov_bz (B.ovR hj hi) (by omega) (by omega) (by omega),
    fun i hi => ov_bz (B.oW i hi) (by omega) (by omega) (by omega), ?_, ?_, ⟨c, fun j hj => w_all hc hj⟩⟩
  · have : n = 1 ∨ n = 2 ∨ n = 3 ∨ n = 4 := by omega
    rcases this with h | h | h | h <;> rw [h] <;> exact le_bg (by decide +kernel)
  · have : n = 1 ∨ n = 2 ∨ n = 3 ∨ n = 4 := by omega
    rcases this with h | h | h | h <;> rw [h] <;> exact le_bg (by decide +kernel)
end
/-! ### the lot's rows and bounds -/
theorem col_D {m : Nat} {ws : List W} (h : LotOk m ws) : (ws.map (·.1)).map rd = colD ws.length m (RW ws) := by
  apply List.ext_getElem?
  intro j
  rw [List.getElem?_map, List.getElem?_map]
  unfold colD
  rw [List.getElem?_map]
  by_cases hj : j < ws.length
  · have e := List.getElem?_eq_getElem hj
    rw [e, List.getElem?_range hj]
    have hw := h.w _ (List.getElem_mem hj)
    show some (rd ws[j].1) = some _
    rw [rd_rl fun x hx => (hw.2.1 x hx).1, hw.1]
    congr 2
    exact rl_congr fun i _ => by unfold RW; rw [getD_at e]
  · rw [List.getElem?_eq_none_iff.mpr (by omega), List.getElem?_eq_none_iff.mpr (by simp; omega : (List.range ws.length).length ≤ j)]
    rfl
theorem bnd_D {m : Nat} {ws : List W} (h : LotOk m ws) : (ws.map (·.2)).map qd = rl ws.length (BW ws) := by
  rw [map_rl fun x hx => by
    obtain ⟨w, hw, rfl⟩ := List.mem_map.mp hx
    exact (h.w w hw).2.2.1, List.length_map]
  exact rl_congr fun j hj => fR_map hj
theorem rows_q (n : Nat) (s : Sto) {m : Nat} {ws : List W} (h : LotOk m ws) : Fx (n + 1) 40 [ld m ws] s = .ok (.lst (colD ws.length m (RW ws))) s := by
  rw [c40, ← col_D h]
  have l : lcL [1, 2] (gTp 2 (gCons (gNm 1) (gCons (gNm 2) gNil))) mYes (mVar 1) none (ws.map wd) [some (ld m ws), none, none] (ws.map wd) s [] = .ok ([] ++ ws.map fun v => rd v.1) s :=
    lc_mapA ws [] fun v _ => ⟨[some (ld m ws), some (rd v.1), some (qd v.2)], by simp [wd], by simp⟩
  simp [runB, m_rows_in, ld1, l]
theorem bounds_q (n : Nat) (s : Sto) {m : Nat} {ws : List W} (h : LotOk m ws) : Fx (n + 1) 41 [ld m ws] s = .ok (.lst (rl ws.length (BW ws))) s := by
  rw [c41, ← bnd_D h]
  have l : lcL [1, 2] (gTp 2 (gCons (gNm 1) (gCons (gNm 2) gNil))) mYes (mVar 2) none (ws.map wd) [some (ld m ws), none, none] (ws.map wd) s [] = .ok ([] ++ ws.map fun v => qd v.2) s :=
    lc_mapA ws [] fun v _ => ⟨[some (ld m ws), some (rd v.1), some (qd v.2)], by simp [wd], by simp⟩
  simp [runB, m_bounds_in, ld1, l]
@[simp] theorem colD_len (k m : Nat) (c : Nat → Nat → Rat) : (colD k m c).length = k := by simp [colD]
theorem opp_r (n : Nat) (s : Sto) (x : Rat) : Fx (n + 1) 37 [rq x] s = .ok (rq (-x)) s := by
  rw [c37]
  simp [runB, m_opposite]
  show _ = qd (nq (-x))
  rw [← nq_neg]
  rfl
theorem turned_r (n : Nat) (s : Sto) (k : Nat) (f : Nat → Rat) : Fx (n + 2) 38 [.tup (rl k f)] s = .ok (.tup (rl k fun j => -f j)) s := by
  rw [c38]
  have l : lcL [1] (gNm 1) mYes (mCall (Fx (n + 1)) 37 [.at 0] (mCons (mVar 1) mNil)) none (rl k f) [some (.tup (rl k f)), none] (rl k f) s [] = .ok ([] ++ (List.range k).map fun j => rq (-f j)) s :=
    lc_mapA (h := fun j => rq (f j)) (List.range k) [] fun j _ => ⟨_, rfl, by simp [opp_r n s (f j)]⟩
  simp [runB, m_turned, l]
  rfl
section
variable {m : Nat} {ws : List W} {rw : Nat → Rat} {best : Rat}
end
end K03
set_option maxHeartbeats 400000
set_option exponentiation.threshold 9000
namespace K03
open PySem PySem.Spec L2 Rf Lp
/-- a lot of small numbers -/
structure Gl (n : Nat) (ws : List W) : Prop where
  n1 : 1 ≤ n ∧ n ≤ 4
  k1 : ws.length ≤ 8
  oR : ∀ w ∈ ws, ∀ i, i < n → Ov 12 240 (fR w.1 i)
  oB : ∀ w ∈ ws, Ov 144 57600 (vl w.2)
section
variable {n m : Nat} {ws : List W}
theorem Gl.ovR (B : Gl n ws) {j i : Nat} (hj : j < ws.length) (hi : i < n) : Ov 12 240 (RW ws j i) := by
  obtain ⟨w, hw, e1, e2⟩ := at_w hj
  rw [e1]
  exact B.oR w hw i hi
theorem Gl.ovB (B : Gl n ws) {j : Nat} (hj : j < ws.length) : Ov 144 57600 (BW ws j) := by
  obtain ⟨w, hw, e1, e2⟩ := at_w hj
  rw [e2]
  exact B.oB w hw
theorem Gl.okV (B : Gl n ws) : LbOk ws.length (n + 1) 57600 1 (colV n ws) (rtV n) (fun _ => 0) := by
  have k1 := B.k1
  have n1 := B.n1
  have cR : ∀ i, i < n → ∀ j, j < ws.length → Ov 12 57600 (colV n ws j i) := fun i hi j hj => by
    unfold colV
    rw [if_pos hi]
    exact ov_mono (by omega) (B.ovR hj hi)
  have cB : ∀ j, j < ws.length → Ov 144 57600 (colV n ws j n) := fun j hj => by
    unfold colV
    rw [if_neg (by omega)]
    exact B.ovB hj
  have rR : ∀ i, i < n → Ov 12 57600 (rtV n i) := fun i hi => by
    unfold rtV
    rw [if_pos hi]
    exact ov_0 _ _
  have rB : Ov 144 57600 (rtV n n) := by
    unfold rtV
    rw [if_neg (by omega)]
    exact ov_mono (by omega) (ov_neg (ov_1 (D := 144) (by omega)))
  refine ⟨by omega, pow_ok (by omega) (by omega), by omega, Nat.le_refl _, sz_of_ov fun i hi => ?_, fun _ _ => bz_0, fun j hj i hi => ?_, fun i hi => ?_, ?_, ?_, ⟨fun _ => 0, fun j hj => ?_⟩⟩
  · by_cases q : i < n
    · exact ⟨12, by omega, by omega, fun j _ => ov_sys (by omega) (by omega) (cR i q) (rR i q) j⟩
    · have : i = n := by omega
      subst this
      exact ⟨144, by omega, by omega, fun j _ => ov_sys (by omega) (by omega) cB rB j⟩
  · by_cases q : i < n
    · exact ov_bz (cR i q j hj) (by omega) (by omega) (by omega)
    · have : i = n := by omega
      subst this
      exact ov_bz (cB j hj) (by omega) (by omega) (by omega)
  · by_cases q : i < n
    · exact ov_bz (rR i q) (by omega) (by omega) (by omega)
    · have : i = n := by omega
      subst this
      exact ov_bz rB (by omega) (by omega) (by omega)
  · have : n = 1 ∨ n = 2 ∨ n = 3 ∨ n = 4 := by omega
    rcases this with h | h | h | h <;> rw [h] <;> exact le_bg (by decide +kernel)
  · have : n = 1 ∨ n = 2 ∨ n = 3 ∨ n = 4 := by omega
    rcases this with h | h | h | h <;> rw [h] <;> exact le_bg (by decide +kernel)
  · rw [sm_none _ _ fun i _ => by grind]
    exact Rat.le_refl
/-- how great the prices are, and a row that is told -/
def PV (m : Nat) : Nat := 2 * (1 * Pg 1 (gi (m + 1) 57600) (m + 1))
def PW (m : Nat) : Nat := (m + 1) * gi (m + 1) 57600 ^ (m + 1)
def VdRes (m : Nat) (ws : List W) (d : D) : Prop :=
  (∃ lam : Nat → Rat, (∀ j, j < ws.length → 0 ≤ lam j ∧ bz (gi (m + 1) 57600) (lam j)) ∧ (∀ i, i < m → sm ws.length (fun j => RW ws j i * lam j) = 0) ∧ sm ws.length (fun j => BW ws j * lam j) = -1 ∧ d = .tup [.tup (rl ws.length lam), .tup []]) ∨
  (∃ y : Nat → Rat, (∀ i, i < m → bz (PW m) (y i)) ∧ (∀ j, j < ws.length → sm m (fun i => RW ws j i * y i) ≤ BW ws j) ∧ d = .tup [.tup [], .tup (rl m y)])
def VdFn (m : Nat) (ws : List W) (d : D) : Prop :=
  (∃ lam y, LbFn ws.length (m + 1) (colV m ws) (rtV m) (fun _ => 0) (.tup [.tup (rl ws.length lam), y]) ∧ 0 < ws.length ∧ d = .tup [.tup (rl ws.length lam), .tup []]) ∨
  (∃ Y, LbFn ws.length (m + 1) (colV m ws) (rtV m) (fun _ => 0) (.tup [.tup [], .tup (rl (m + 1) Y)]) ∧ d = .tup [.tup [], .tup (rl m fun i => -Y i / Y m)])
theorem rq_inj {x y : Rat} (h : rq x = rq y) : x = y := by
  have e : nq x = nq y := by
    have h' : D.tup [.int (nq x).1, .int (nq x).2] = D.tup [.int (nq y).1, .int (nq y).2] := h
    injection h' with h1
    injection h1 with h2 h3
    injection h3 with h3 h4
    injection h2 with h2
    injection h3 with h3
    exact Prod.ext h2 h3
  rw [← vl_nq x, e, vl_nq]
theorem rl_inj {k : Nat} {f g : Nat → Rat} (h : rl k f = rl k g) {i : Nat} (hi : i < k) : f i = g i := by
  have e := congrArg (fun l : List D => l[i]?) h
  unfold rl at e
  simp [hi] at e
  exact rq_inj e
theorem bz_quo {a b : Int} {A : Nat} (hb : b ≠ 0) (h1 : a.natAbs ≤ A) (h2 : b.natAbs ≤ A) : bz A ((a : Rat) / (b : Rat)) := by
  obtain ⟨s, d, hs, hd, e, q⟩ := over_sign (a := a) hb
  rw [q a, ← nat_int]
  exact frac_bz (d := d) (n := A) hd (by rw [natAbs_sign hs]; exact h1) (by omega)
/-- the prices are over one denominator -/
theorem quo_b (B : Gl m ws) {y : Nat → Rat} (h : LbFn ws.length (m + 1) (colV m ws) (rtV m) (fun _ => 0) (.tup [.tup [], .tup (rl (m + 1) y)])) (h0 : y m ≠ 0) : ∀ i, i < m → bz (PW m) (-y i / y m) := by
  have ok := B.okV
  have b0 : Bas (m + 1) (ws.length + (m + 1)) (sys ws.length (m + 1) (colV m ws) (rtV m)) (fun i => ws.length + i) := bas0 sys_spare
  obtain ⟨L, T, β, r, lc, q⟩ := h
  rcases q with ⟨-, e⟩ | ⟨z, T2, β2, L', T', β', -, -, -, -, -, e⟩
  · injection e with e
    injection e with _ e
    injection e with e _
    injection e with e
    have ey : ∀ i, i < m + 1 → y i = sg (rtV m) i * pr (m + 1) ws.length (cost1 ws.length (ws.length + (m + 1))) T β i := fun i hi => rl_inj e hi
    obtain ⟨bT, -, eq⟩ := r.inv (by omega) b0 sys_fea
    have sz := size_of ok.n1 b0 bT eq ok.sz
    obtain ⟨D, u, d1, -, d3⟩ := sz.common (Nat.le_trans ok.n1 (gi_ge ok.n1 _)) (fun k => cost1 ws.length (ws.length + (m + 1)) (β k)) (fun k => by unfold cost1; split <;> simp) (m + 1) (Nat.le_refl _)
    have ep : ∀ i, i < m + 1 → y i = sg (rtV m) i * ((u (ws.length + i) : Rat) / (D : Rat)) := fun i hi => by
      rw [ey i hi, pr_eq]
      exact congrArg (fun x => sg (rtV m) i * x) (d3 (ws.length + i) (by omega)).2
    intro i hi
    have pD := cast_pos d1
    have sgI : ∀ j, ∃ s : Int, (s = 1 ∨ s = -1) ∧ sg (rtV m) j = (s : Rat) := fun j => by
      unfold sg
      split
      · exact ⟨-1, .inr rfl, by rw [Rat.intCast_neg]; rfl⟩
      · exact ⟨1, .inl rfl, rfl⟩
    obtain ⟨s, hs, es⟩ := sgI i
    obtain ⟨s', hs', es'⟩ := sgI m
    have e1 := ep i (by omega)
    have e2 := ep m (by omega)
    rw [es] at e1
    rw [es'] at e2
    have hn : s' * u (ws.length + m) ≠ 0 := fun z => h0 (by
      rw [e2]
      have : ((s' : Int) : Rat) * ((u (ws.length + m) : Int) : Rat) = 0 := by
        rw [← Rat.intCast_mul, z]
        rfl
      have n1 : (D : Rat) ≠ 0 := fun z => by rw [z] at pD; exact absurd pD (by decide)
      grind)
    have eq2 : -y i / y m = ((-(s * u (ws.length + i)) : Int) : Rat) / ((s' * u (ws.length + m) : Int) : Rat) := by
      rw [e1, e2, Rat.intCast_neg, Rat.intCast_mul, Rat.intCast_mul]
      have n1 : (D : Rat) ≠ 0 := fun z => by rw [z] at pD; exact absurd pD (by decide)
      have n2 : ((s' : Int) : Rat) * ((u (ws.length + m) : Int) : Rat) ≠ 0 := fun z => hn (by
        rw [← Rat.intCast_mul] at z
        exact Rat.intCast_eq_zero_iff.mp z)
      generalize ((u (ws.length + m) : Int) : Rat) = p at *
      generalize ((u (ws.length + i) : Int) : Rat) = q at *
      generalize ((s : Int) : Rat) = a at *
      generalize ((s' : Int) : Rat) = b at *
      have n3 : b * (p / (D : Rat)) ≠ 0 := fun z => by
        rw [← e2] at z
        exact h0 z
      grind
    rw [eq2]
    refine bz_quo hn ?_ ?_
    · rw [Int.natAbs_neg, natAbs_sign hs]
      exact (d3 (ws.length + i) (by omega)).1
    · rw [natAbs_sign hs']
      exact (d3 (ws.length + m) (by omega)).1
  · exfalso
    injection e with e
    injection e with e3 e
    injection e with e _
    injection e with e
    have k0 : ws.length = 0 := by
      injection e3 with e3
      have := congrArg List.length e3
      simp at this
      omega
    refine h0 ?_
    rw [rl_inj e (show m < m + 1 by omega), pr_eq, sm_none _ _ fun k _ => by
      unfold cost2
      rw [if_neg (by omega)]
      grind]
    grind
theorem VdFn.one {d d' : D} (h : VdFn m ws d) (h' : VdFn m ws d') : d = d' := by
  have nil : ∀ {k : Nat} {f : Nat → Rat}, 0 < k → rl k f ≠ [] := fun {k f} hk e => by
    have := congrArg List.length e
    simp at this
    omega
  rcases h with ⟨lam, y, l1, k, rfl⟩ | ⟨Y, l1, rfl⟩
  · rcases h' with ⟨lam', y', l2, -, rfl⟩ | ⟨Y', l2, rfl⟩
    · have e := l1.one l2
      injection e with e
      injection e with e _
      rw [e]
    · have e := l1.one l2
      injection e with e
      injection e with e _
      injection e with e
      exact (nil k e).elim
  · rcases h' with ⟨lam', y', l2, k, rfl⟩ | ⟨Y', l2, rfl⟩
    · have e := l1.one l2
      injection e with e
      injection e with e _
      injection e with e
      exact (nil k e.symm).elim
    · have e := l1.one l2
      injection e with e
      injection e with _ e
      injection e with e _
      injection e with e
      have q := fun {i : Nat} (hi : i < m + 1) => rl_inj e hi
      congr 3
      exact congrArg D.tup (rl_congr fun i hi => by rw [q (show i < m + 1 by omega), q (show m < m + 1 by omega)])
end
end K03
set_option maxHeartbeats 400000
set_option exponentiation.threshold 9000
namespace K03
open PySem PySem.Spec L2 Rf Lp
section
variable {m : Nat} {ws : List W}
theorem PV_ok {m : Nat} (h : 1 ≤ m ∧ m ≤ 4) : PV m * PV m ≤ BG := by
  have : m = 1 ∨ m = 2 ∨ m = 3 ∨ m = 4 := by omega
  rcases this with h | h | h | h <;> rw [h] <;> exact le_bg (by decide +kernel)
theorem void_s (n : Nat) (s : Sto) (h : LotOk m ws) (B : Gl m ws) : (Fx (n + 9) 42 [ld m ws] s).wp fun d s' => (VdRes m ws d ∧ VdFn m ws d) ∧ Gr s s' := by
  have hn := B.n1
  have hl := h.l
  rw [c42]
  have r1 := rows_q (n + 7) s h
  have r2 := bounds_q (n + 7) s h
  simp [runB, m_void_weights, r1, r2, ld0]
  rw [c39]
  show (R.bd (mSeq _ _ [some (.lst (colD ws.length m (RW ws))), some (.lst (rl ws.length (BW ws))), some (.int m), none, none, none, none, none, none] s) _).wp _
  rw [wp_bd']
  have ez : zip2D (colD ws.length m (RW ws)) (rl ws.length (BW ws)) = (List.range ws.length).map fun j => .tup [.tup (rl m (RW ws j)), rq (BW ws j)] := by
    unfold colD rl
    rw [zip_rg, Nat.min_self]
  have l : lcL [6, 7] (gTp 2 (gCons (gNm 6) (gCons (gNm 7) gNil))) mYes (mOp2 (opAdd false) (mVar 6) (mOpN opTup (mCons (mVar 7) mNil))) none ((List.range ws.length).map fun j => .tup [.tup (rl m (RW ws j)), rq (BW ws j)]) [some (.lst (colD ws.length m (RW ws))), some (.lst (rl ws.length (BW ws))), some (.int m), none, none, none, none, none, none] ((List.range ws.length).map fun j => .tup [.tup (rl m (RW ws j)), rq (BW ws j)]) s [] = .ok ([] ++ (List.range ws.length).map fun j => .tup (rl (m + 1) (colV m ws j))) s :=
    lc_mapA (h := fun j => .tup [.tup (rl m (RW ws j)), rq (BW ws j)]) (List.range ws.length) [] fun j hj => by
      have a1 := opAdd_tup false (rl m (RW ws j)) [rq (BW ws j)] (s := s) (by simp; omega)
      have e1 : rl m (RW ws j) ++ [rq (BW ws j)] = rl (m + 1) (colV m ws j) := by
        rw [rl_app, rl_one]
        have q1 : rl m (colV m ws j) = rl m (RW ws j) := rl_congr fun i hi => by unfold colV; rw [if_pos hi]
        have q2 : colV m ws j (m + 0) = BW ws j := by unfold colV; rw [if_neg (by omega)]
        rw [q1, q2]
      rw [e1] at a1
      exact ⟨[some (.lst (colD ws.length m (RW ws))), some (.lst (rl ws.length (BW ws))), some (.int m), none, none, none, some (.tup (rl m (RW ws j))), some (rq (BW ws j)), none], by simp, by simp [a1]⟩
  rw [List.nil_append, ← ez] at l
  refine wp_seq (R.wp_mono (Q := fun f s1 => s1 = s ∧ f = .nx [some (.lst (colD ws.length m (RW ws))), some (.lst (rl ws.length (BW ws))), some (.int m), some (.lst (colD ws.length (m + 1) (colV m ws))), none, none, none, none, none]) ?_ ?_)
  · simp [l]
    rfl
  rintro _ s1 ⟨rfl, rfl⟩
  have no := noughts_r (n + 6) s1 m (by omega)
  have nk := noughts_r (n + 6) s1 ws.length (by omega)
  have a2 := opAdd_tup false (rl m fun _ => 0) [D.tup [.int (-1), .int 1]] (s := s1) (by simp; omega)
  have e2 : rl m (fun _ => 0) ++ [D.tup [.int (-1), .int 1]] = rl (m + 1) (rtV m) := by
    rw [rl_app, rl_one, ← rq_n1]
    have q1 : rl m (rtV m) = rl m fun _ => 0 := rl_congr fun i hi => by unfold rtV; rw [if_pos hi]
    have q2 : rtV m (m + 0) = -1 := by unfold rtV; rw [if_neg (by omega)]
    rw [q1, q2]
  rw [e2] at a2
  have ln : opLen (.lst (colD ws.length (m + 1) (colV m ws))) s1 = .ok (.int ws.length) s1 := by
    show R.ok (D.int (colD ws.length (m + 1) (colV m ws)).length) s1 = _
    simp [colD]
  have ok := B.okV
  have lq_ := least_q n s1 ok (.tup (rl ws.length fun _ => 0)) (fun _ => rfl)
  refine wp_seq (R.wp_mono (Q := fun f s2 => ∃ d, (LbRes ws.length (m + 1) (gi (m + 1) 57600) (PV m) (colV m ws) (rtV m) (fun _ => 0) d ∧ LbFn ws.length (m + 1) (colV m ws) (rtV m) (fun _ => 0) d) ∧
    (∃ d1 d2, d = .tup [d1, d2] ∧ f = .nx [some (.lst (colD ws.length m (RW ws))), some (.lst (rl ws.length (BW ws))), some (.int m), some (.lst (colD ws.length (m + 1) (colV m ws))), some d1, some d2, none, none, none]) ∧ Gr s1 s2) ?_ ?_)
  · simp [no, a2, ln, nk]
    refine R.wp_mono lq_ fun d s2 hd => ?_
    obtain ⟨hd, hg⟩ := hd
    have hd' := hd.1
    rcases hd' with ⟨y, rfl, _⟩ | ⟨lam, y, rfl, _⟩
    · simp
      exact ⟨_, hd, rfl, hg⟩
    · simp
      exact ⟨_, hd, rfl, hg⟩
  rintro _ s2 ⟨d, ⟨hr, hf⟩, ⟨d1, d2, rfl, rfl⟩, hg⟩
  have PP := PV_ok hn
  rcases hr with ⟨y, e, y1, y2, y3⟩ | ⟨lam, y, e, y1, y2, y3, y4, y5⟩
  · injection e with e
    injection e with e3 e
    injection e with e4
    subst e3 e4
    have em : sm (m + 1) (fun i => rtV m i * y i) = -y m := by
      simp only [sm]
      rw [sm_none m _ fun i hi => by unfold rtV; rw [if_pos hi]; grind]
      unfold rtV
      rw [if_neg (by omega)]
      grind
    rw [em] at y3
    have y0 : y m ≠ 0 := by grind
    have ct : cutD (rl (m + 1) y) none (some (m : Int)) = rl m y := by
      rw [cut_to _ _ (by simp)]
      rw [rl_app, List.take_append_of_le_length (by simp), List.take_of_length_le (by simp)]
    have tu := turned_r (n + 5) s2 m y
    have iy := ix_rlT (s := s2) (f := y) (show m < m + 1 by omega)
    have l2 : lcL [8] (gNm 8) mYes (mCall (Fx (n + 7)) 28 [.at 0, .at 1] (mCons (mVar 8) (mCons (mOp2 opIx (mVar 5) (mVar 2)) mNil))) none (rl m fun j => -y j) [some (.lst (colD ws.length m (RW ws))), some (.lst (rl ws.length (BW ws))), some (.int m), some (.lst (colD ws.length (m + 1) (colV m ws))), some (.tup []), some (.tup (rl (m + 1) y)), none, none, none] (rl m fun j => -y j) s2 [] = .ok ([] ++ (List.range m).map fun j => rq (-y j / y m)) s2 :=
      lc_mapA (h := fun j => rq (-y j)) (List.range m) [] fun j hj => by
        have hj' := List.mem_range.mp hj
        have q := over_r (n + 4) s2 (bz_neg (y1 j (by omega))) (y1 m (by omega)) y0 PP
        exact ⟨_, rfl, by simp [iy, q]⟩
    simp [ct, tu, l2]
    refine ⟨⟨.inr ⟨fun i => -y i / y m, quo_b B hf y0, fun j hj => ?_, rfl⟩, .inr ⟨y, hf, rfl⟩⟩, hg⟩
    have q := y2 j hj
    simp only [sm] at q
    have e5 : sm m (fun i => colV m ws j i * y i) = sm m (fun i => RW ws j i * y i) := sm_congr fun i hi => by unfold colV; rw [if_pos hi]
    have e6 : colV m ws j m = BW ws j := by unfold colV; rw [if_neg (by omega)]
    rw [e5, e6] at q
    have e7 : sm m (fun i => RW ws j i * (-y i / y m)) = -(sm m (fun i => RW ws j i * y i)) / y m := by
      have : sm m (fun i => RW ws j i * (-y i / y m)) = sm m (fun i => (-1 / y m) * (RW ws j i * y i)) := sm_congr fun i hi => by grind
      rw [this, sm_mul]
      grind
    rw [e7]
    have hY : 0 < -y m := by grind
    have e8 : -(sm m (fun i => RW ws j i * y i)) / y m = sm m (fun i => RW ws j i * y i) / (-y m) := by grind
    rw [e8]
    generalize sm m (fun i => RW ws j i * y i) = x at *
    have e9 : x / (-y m) * (-y m) = x := Rat.div_mul_cancel (by grind)
    refine Classical.byContradiction fun c => ?_
    have := Rat.mul_lt_mul_of_pos_left (show BW ws j < x / (-y m) by grind) hY
    grind
  · injection e with e
    injection e with e3 e
    injection e with e4
    subst e3 e4
    have kpos : 0 < ws.length := by
      refine Nat.pos_of_ne_zero fun z => ?_
      have := y3 m (by omega)
      rw [z] at this
      unfold rtV at this
      rw [if_neg (by omega)] at this
      simp [sm] at this
      grind
    have lne : (rl ws.length lam).isEmpty = false := by
      have : (rl ws.length lam).length = ws.length := rl_len _ _
      cases e2 : rl ws.length lam with
      | nil => rw [e2] at this; simp at this; omega
      | cons => rfl
    refine wp_seq (R.wp_mono (Q := fun f s3 => s3 = s2 ∧ f = .rt (.tup [.tup (rl ws.length lam), .tup []])) ?_ ?_)
    · have lne' : rl ws.length lam ≠ [] := fun z => by rw [z] at lne; cases lne
      simp [lne']
    rintro _ s3 ⟨rfl, rfl⟩
    simp
    refine ⟨⟨.inl ⟨lam, fun j hj => y2 j hj, fun i hi => ?_, ?_, rfl⟩, .inl ⟨lam, _, hf, kpos, rfl⟩⟩, hg⟩
    · have := y3 i (by omega)
      unfold rtV at this
      rw [if_pos hi] at this
      rw [← this]
      exact sm_congr fun j _ => by unfold colV; rw [if_pos hi]
    · have := y3 m (by omega)
      unfold rtV at this
      rw [if_neg (by omega)] at this
      rw [← this]
      exact sm_congr fun j _ => by unfold colV; rw [if_neg (by omega)]
theorem void_g (n : Nat) (h : LotOk m ws) (B : Gl m ws) : ∃ d0, VdRes m ws d0 ∧ ∀ s, (Fx (n + 9) 42 [ld m ws] s).wp fun d s' => d = d0 ∧ Gr s s' := by
  obtain ⟨d0, q, r⟩ := det (P := fun d => VdRes m ws d ∧ VdFn m ws d) (fun s => void_s n s h B) fun d d' q q' => q.2.one q'.2
  exact ⟨d0, q.1, r⟩
end
end K03
set_option maxHeartbeats 400000
set_option exponentiation.threshold 9000
namespace K03
open PySem PySem.Spec L2 Rf Lp
/-! ### the law's sum of products -/
theorem ldot_loop (n : Nat) (s : Sto) (A B : Nat) (a0 a1 : D) (all : List D) : ∀ (xs ys : List Q) (acc : Q) (z3 z4 : Option D) (P k : Nat), bq P acc → (∀ x ∈ xs, bq A x) → (∀ y ∈ ys, bq B y) → ys.length ≤ k → P * (2 * (A * B)) ^ k ≤ BG →
    (forL (gTp 2 (gCons (gNm 3) (gCons (gNm 4) gNil))) (mAsg (gNm 2) (mCall (Fx (n + 2)) 6 [.at 0, .at 1] (mCons (mVar 2) (mCons (mCall (Fx (n + 2)) 7 [.at 0, .at 1] (mCons (mVar 3) (mCons (mVar 4) mNil))) mNil)))) none all (zip2D (xs.map qd) (ys.map qd)) [some a0, some a1, some (qd acc), z3, z4] s).wp
      fun f s' => s' = s ∧ ∃ z3 z4, f = .nx [some a0, some a1, some (qd (dotA acc xs ys)), z3, z4]
  | [], ys, acc, z3, z4, P, k, _, _, _, _, _ => by
    simp [forL, gstB, dotA]
  | x :: xs, [], acc, z3, z4, P, k, _, _, _, _, _ => by
    simp [forL, gstB, dotA]
  | x :: xs, y :: ys, acc, z3, z4, P, 0, _, _, _, hk, _ => by simp at hk
  | x :: xs, y :: ys, acc, z3, z4, P, k + 1, h, hx, hy, hk, hb => by
    have bx := hx x (.head _)
    have by' := hy y (.head _)
    have c1 : 1 ≤ A * B := Nat.mul_pos (by have := bx.1; have := bx.2.2; omega) (by have := by'.1; have := by'.2.2; omega)
    obtain ⟨t1, t2⟩ := turn_b hb c1
    have bm := pmul_bq bx by'
    have e : zip2D ((x :: xs).map qd) ((y :: ys).map qd) = .tup [qd x, qd y] :: zip2D (xs.map qd) (ys.map qd) := by simp
    have e2 : dotA acc (x :: xs) (y :: ys) = dotA (padd acc (pmul x y)) xs ys := rfl
    rw [e, e2]
    unfold forL
    rw [if_pos (show gstB none all s = true from rfl)]
    have ih := ldot_loop n s A B a0 a1 all xs ys (padd acc (pmul x y)) (some (qd x)) (some (qd y)) (2 * (P * (A * B))) k (padd_bq h bm) (fun x h => hx x (.tail _ h)) (fun y h => hy y (.tail _ h)) (by simpa using hk) t2
    have m1 : A * B ≤ BG := by
      have : A * B ≤ P * (A * B) := Nat.le_mul_of_pos_left _ (by have := h.1; have := h.2.2; omega)
      omega
    have q1 := ltimes_q n s x y A B bx by' m1
    have q2 := lplus_q n s acc (pmul x y) P (A * B) h bm t1
    simp [q1, q2]
    exact ih
theorem ldot_q (n : Nat) (s : Sto) (A B : Nat) (xs ys : List Q) (hx : ∀ x ∈ xs, bq A x) (hy : ∀ y ∈ ys, bq B y) (k : Nat) (hk : ys.length ≤ k) (hb : (2 * (A * B)) ^ k ≤ BG) : Fx (n + 3) 8 [rd xs, rd ys] s = .ok (qd (dotQ xs ys)) s := by
  rw [c8]
  have l := fun z3 z4 => ldot_loop n s A B (rd xs) (rd ys) (zip2D (xs.map qd) (ys.map qd)) xs ys (0, 1) z3 z4 1 k ⟨by decide, by decide, by decide⟩ hx hy hk (by rw [Nat.one_mul]; exact hb)
  refine wp_eq ?_
  simp [runB, m_law_dot]
  refine R.wp_mono (l none none) fun f s' h => ?_
  obtain ⟨rfl, z3, z4, rfl⟩ := h
  simp
  rfl
/-! ### the corner -/
end K03
set_option maxHeartbeats 400000
set_option exponentiation.threshold 9000
namespace K03
open PySem PySem.Spec L2 Rf Lp
theorem up_q (n : Nat) (s : Sto) (p q : Q) (A B : Nat) (hp : bq A p) (hq : bq B q) (hA : A ≤ BG) (hB : B ≤ BG) : Fx (n + 1) 49 [qd p, qd q] s = .ok (.bl (ple p q)) s := by
  have ⟨p1, p2, p3⟩ := hp
  have ⟨q1, q2, q3⟩ := hq
  rw [c49]
  simp (disch := first | omega | (simp; done) | (simp; omega)) [runB, o_mulW, o_divW, m_is_up_to, qd, ple]
/-! ### lying in a lot -/
def holdsW (w : List Q × Q) (p : List Q) : Bool := ple (dotQ w.1 p) w.2
/-- small enough to be reckoned with -/
structure Sm (A B k : Nat) (ws : List (List Q × Q)) (ys : List Q) : Prop where
  r : ∀ w ∈ ws, (∀ x ∈ w.1, bq A x) ∧ bq (10 ^ 30) w.2
  p : ∀ y ∈ ys, bq B y
  l : ys.length ≤ k
  b : (2 * (A * B)) ^ k ≤ BG
  a : 1 ≤ A * B ∧ A ≤ BG
theorem Sm.dot {A B k : Nat} {ws : List (List Q × Q)} {p : List Q} (S : Sm A B k ws p) {w : List Q × Q} (hw : w ∈ ws) : bq (BG) (dotQ w.1 p) := by
  have := dotA_bq w.1 p (0, 1) 1 (A * B) k ⟨by decide, by decide, by decide⟩ (fun x hx y hy => pmul_bq ((S.r w hw).1 x hx) (S.p y hy)) S.l S.a.1
  rw [Nat.one_mul] at this
  exact bq_mono S.b this
theorem lies_q (n : Nat) (s : Sto) {A B k : Nat} {ws : List (List Q × Q)} {p : List Q} (S : Sm A B k ws p) (m : Int) : Fx (n + 5) 52 [ld m ws, rd p] s = .ok (.bl (ws.all fun w => holdsW w p)) s := by
  rw [c52]
  have e : lcL [2, 3] (gTp 2 (gCons (gNm 2) (gCons (gNm 3) gNil))) mYes (mCall (Fx (n + 4)) 49 [.at 0, .at 1] (mCons (mCall (Fx (n + 4)) 51 [.at 0, .at 1] (mCons (mVar 2) (mCons (mVar 1) mNil))) (mCons (mVar 3) mNil))) none (ws.map wd) [some (ld m ws), some (rd p), none, none] (ws.map wd) s [] = .ok ([] ++ ws.map fun w => .bl (holdsW w p)) s := by
    refine lc_mapA ws [] fun w hw => ⟨[some (ld m ws), some (rd p), some (rd w.1), some (qd w.2)], by simp [wd], ?_⟩
    have q1 := dot_q n s A B w.1 p (S.r w hw).1 S.p k S.l S.b
    have q2 := up_q (n + 3) s (dotQ w.1 p) w.2 BG BG (S.dot hw) (bq_mono (le_bg (by decide +kernel)) (S.r w hw).2) (by omega) (by omega)
    simp [q1, q2, holdsW]
  have i1 : opIx (ld m ws) (.int 1) s = .ok (.tup (ws.map wd)) s := o_ix1 _ _ _
  simp [runB, m_lies_by, i1, e, o_allA]
theorem llies_q (n : Nat) (s : Sto) {A B k : Nat} {ws : List (List Q × Q)} {p : List Q} (S : Sm A B k ws p) (m : Int) : Fx (n + 4) 56 [ld m ws, rd p] s = .ok (.bl (ws.all fun w => holdsW w p)) s := by
  rw [c56]
  have e : lcL [2, 3] (gTp 2 (gCons (gNm 2) (gCons (gNm 3) gNil))) mYes (mCall (Fx (n + 3)) 9 [.at 0, .at 1] (mCons (mCall (Fx (n + 3)) 8 [.at 0, .at 1] (mCons (mVar 2) (mCons (mVar 1) mNil))) (mCons (mVar 3) mNil))) none (ws.map wd) [some (ld m ws), some (rd p), none, none] (ws.map wd) s [] = .ok ([] ++ ws.map fun w => .bl (holdsW w p)) s := by
    refine lc_mapA ws [] fun w hw => ⟨[some (ld m ws), some (rd p), some (rd w.1), some (qd w.2)], by simp [wd], ?_⟩
    have q1 := ldot_q n s A B w.1 p (S.r w hw).1 S.p k S.l S.b
    have q2 := lup_q (n + 2) s (dotQ w.1 p) w.2 BG BG (S.dot hw) (bq_mono (le_bg (by decide +kernel)) (S.r w hw).2) (by omega) (by omega)
    simp [q1, q2, holdsW]
  have i1 : opIx (ld m ws) (.int 1) s = .ok (.tup (ws.map wd)) s := o_ix1 _ _ _
  simp [runB, m_law_lies, i1, e, o_allA]
theorem liesin_q (n : Nat) (s : Sto) {A B k : Nat} {m : Int} {ws : List (List Q × Q)} {p : List Q} (S : Sm A B k ws p) (hm : 1 ≤ m ∧ m ≤ 12) (hl : ws.length ≤ 100) (h : ∀ w ∈ ws, okW m w) (hp : (p.length : Int) = m) (hg : ∀ x ∈ p, gd x) (hB : B ≤ BG) : Fx (n + 8) 53 [ld m ws, rd p] s = .ok (.bl (ws.all fun w => holdsW w p)) s := by
  rw [c53]
  have q1 := chklot_q n s hm hl h S.r S.a.2
  have q2 := chkrow_q (n + 3) s (m := m) hp (by omega) hg S.p hB
  have q3 := lies_q (n + 2) s S m
  have i1 : opIx (ld m ws) (.int 0) s = .ok (.int m) s := o_ix0 _ _
  simp [runB, m_lies_in, q1, i1, q2, q3]
end K03
set_option maxHeartbeats 400000
set_option exponentiation.threshold 9000
namespace K03
open PySem PySem.Spec L2 Rf Lp
/-! ### the law's taking out -/
theorem common_f (n : Nat) (s : Sto) (a b : Int) (hb : b.natAbs ≤ BG) : Fx (n + 1) 44 [.int a, .int b] s = .ok (.int ((Nat.gcd a.natAbs b.natAbs : Nat) : Int)) s := by
  rw [c44]
  have hk : b.natAbs < 2 ^ 8001 := bg_lt hb
  have l := gcd_loop (c := mTest (mOp2 (opCmp fun i j => decide (j < i)) (mVar 1) (mCst (.int 0)))) (m := mPar 0 1 (mCons (mVar 1) (mCons (mOp2 opMod (mOpN opInt (mCons (mVar 0) mNil)) (mVar 1)) mNil)))
    (env := fun x y => [some (.int (x : Nat)), some (.int (y : Nat))]) (st := s) (fun x y => by simp) (fun x y h => by simp (disch := omega)) 8001 1000000 a.natAbs b.natAbs hk (by omega)
  have e1 : (if a < 0 then -a else a) = ((a.natAbs : Nat) : Int) := by split <;> omega
  have e2 : (if b < 0 then -b else b) = ((b.natAbs : Nat) : Int) := by split <;> omega
  simp (disch := first | omega | (simp; done) | (simp; omega)) [runB, m_law_common, e1, e2, l]
theorem cut_m1 (ds : List D) (k : Nat) (h : ds.length = k + 1) : cutD ds none (some (-1)) = ds.take k ∧ cutD ds (some (-1)) none = ds.drop k := by
  have e1 : HT.sIx ds.length ds.length (some (-1)) = k := by
    simp [HT.sIx, h]
    omega
  have e2 : HT.sIx ds.length 0 (some (-1)) = k := by
    simp [HT.sIx, h]
    omega
  unfold cutD
  rw [e1, e2, HT.sIx_none, HT.sIx_none]
  constructor
  · simp
  · rw [List.take_of_length_le (by simp)]
theorem ix_m1 (ds : List D) (k : Nat) (d : D) (h : ds.length = k + 1) (hd : ds[k]? = some d) {s : Sto} : opIx (.tup ds) (.int (-1)) s = .ok d s := by
  have e : atI ds (-1) = some d := by
    have q : ixN ds.length (-1) = some k := by
      unfold ixN
      rw [if_neg (by omega), if_pos (by omega)]
      congr 1
      omega
    unfold atI
    rw [q]
    exact hd
  show (match atI ds (-1) with | some d => R.ok d s | none => .bad) = _
  rw [e]
theorem ix_kD {w : List Int} {i : Nat} (h : i < w.length) {s : Sto} : opIx (kD w) (.int (i : Nat)) s = .ok (.int (cf w i)) s := by
  unfold kD
  rw [o_ixT _ _ (by omega) (by simpa using h)]
  unfold cf
  simp [List.getD_eq_getElem?_getD, List.getElem?_eq_getElem h]
/-- numbers that are not too great -/
def Sml (M : Nat) (w : List Int) : Prop := ∀ a ∈ w, a.natAbs ≤ M
theorem gL_le {l : List Int} {M : Nat} (h : Sml M l) (hM : 1 ≤ M) : gL l ≤ M := by
  by_cases z : ∀ a ∈ l, a = 0
  · have : gL l = 0 := by
      unfold gL
      clear h
      induction l with
      | nil => rfl
      | cons a l ih =>
        rw [List.foldl_cons, z a (.head _)]
        simpa using ih fun b hb => z b (.tail _ hb)
    omega
  · have ⟨a, ha, h0⟩ : ∃ a ∈ l, a ≠ 0 := Classical.byContradiction fun c => z fun a ha => Classical.byContradiction fun q => c ⟨a, ha, q⟩
    have d := Int.natAbs_dvd_natAbs.mpr (gL_dvd ha)
    rw [Int.natAbs_natCast] at d
    have := Nat.le_of_dvd (by omega) d
    have := h a ha
    omega
theorem lowered_f (n : Nat) (s : Sto) {k M : Nat} {w : List Int} (hw : w.length = k + 2) (hs : Sml M w) (h1 : 1 ≤ M) (hM : M ≤ BG) (hk : k ≤ 100) : Fx (n + 2) 45 [kD w] s = .ok (kD (low k w)) s := by
  rw [c45]
  have hs' : Sml M (w.take (k + 1)) := fun a ha => hs a (List.mem_of_mem_take ha)
  have ct := cut_m1 (w.map D.int) (k + 1) (by simp [hw])
  have gl := gL_le hs' h1
  unfold runB m_law_lowered
  rw [if_pos (show [kD w].length = 1 from rfl)]
  refine wp_eq ?_
  rw [wp_bd']
  refine wp_seq ?_
  simp only [x_asg, x_cst, R.bd_ok, x_gNm, wp_ok', List.replicate, List.map_cons, List.map_nil, List.cons_append, List.nil_append, List.set]
  refine wp_seq (R.wp_mono (Q := fun f s1 => s1 = s ∧ ∃ z, f = .nx [some (kD w), some (.int ((gL (w.take (k + 1)) : Nat) : Int)), z]) ?_ ?_)
  · simp [kD, ct.1]
    refine for_wp (fun l env st => st = s ∧ ∃ (r : List Int) (g : Nat) (z : Option D), l = r.map D.int ∧ env = [some (kD w), some (.int (g : Nat)), z] ∧ (∀ a ∈ r, a ∈ w) ∧ r.foldl (fun g a => Nat.gcd g a.natAbs) g = gL (w.take (k + 1))) ?_ ?_ _ _ _ ⟨rfl, w.take (k + 1), 0, none, by simp, rfl, fun a ha => List.mem_of_mem_take ha, rfl⟩
    · rintro d l env st ⟨rfl, r, g, z, e, rfl, hr, hg⟩
      cases r with
      | nil => cases e
      | cons a r =>
        simp at e
        obtain ⟨rfl, rfl⟩ := e
        have ha := hs a (hr a (.head _))
        have q := common_f n st (g : Nat) a (by omega)
        have fin : ∃ r_1, List.map D.int r = List.map D.int r_1 ∧ ∃ x : Nat, ((Nat.gcd g a.natAbs : Nat) : Int) = (x : Int) ∧ (∀ (a : Int), a ∈ r_1 → a ∈ w) ∧ List.foldl (fun g a => Nat.gcd g a.natAbs) x r_1 = gL (List.take (k + 1) w) := ⟨r, rfl, _, rfl, fun b hb => hr b (.tail _ hb), by simpa using hg⟩
        by_cases c : g = 0
        · subst c
          by_cases c2 : a = 0
          · subst c2
            simp
            simpa using fin
          · simp at q
            simp [c2, q]
            simpa using fin
        · simp [c, q]
          simpa using fin
    · rintro env st ⟨rfl, r, g, z, e, rfl, hr, hg⟩
      cases r with
      | cons => cases e
      | nil =>
        simp at hg
        simp [hg, kD]
  rintro _ s1 ⟨rfl, z, rfl⟩
  simp [kD]
  by_cases c : gL (w.take (k + 1)) < 2
  · have c' : ((gL (w.take (k + 1)) : Nat) : Int) < 2 := by omega
    rw [if_pos c']
    unfold low
    rw [if_pos c]
    exact ⟨rfl, rfl⟩
  · have c' : ¬ ((gL (w.take (k + 1)) : Nat) : Int) < 2 := by omega
    rw [if_neg c', ct.1, ct.2, ← List.map_take, ← List.map_drop]
    have l : lcL [2] (gNm 2) mYes (mOp2 opDiv (mVar 2) (mVar 1)) none ((w.take (k + 1)).map D.int) [some (.tup (w.map D.int)), some (.int ((gL (w.take (k + 1)) : Nat) : Int)), z] ((w.take (k + 1)).map D.int) s1 [] = .ok ([] ++ (w.take (k + 1)).map fun a => D.int (a / ((gL (w.take (k + 1)) : Nat) : Int))) s1 :=
      lc_mapA (h := D.int) (w.take (k + 1)) [] fun a ha => ⟨_, rfl, by
        have q := o_divW a ((gL (w.take (k + 1)) : Nat) : Int) (s := s1) (by omega) (by omega)
        simp [q]⟩
    rw [l]
    have a1 := opAdd_tup false ((w.take (k + 1)).map fun a => D.int (a / ((gL (w.take (k + 1)) : Nat) : Int))) ((w.drop (k + 1)).map D.int) (s := s1) (by simp; omega)
    simp only [List.nil_append, R.bd_ok, o_un1]
    have t1 : opTupOf (.lst ((w.take (k + 1)).map fun a => D.int (a / ((gL (w.take (k + 1)) : Nat) : Int)))) s1 = .ok (.tup ((w.take (k + 1)).map fun a => D.int (a / ((gL (w.take (k + 1)) : Nat) : Int)))) s1 := rfl
    rw [t1, R.bd_ok, a1]
    unfold low
    rw [if_neg c]
    simp
    rfl
theorem zw {α β γ : Type} (f : α → β → γ) : ∀ (xs : List α) (ys : List β), List.zipWith f xs ys = (xs.zip ys).map fun p => f p.1 p.2
  | [], _ => by simp
  | _ :: _, [] => by simp
  | x :: xs, y :: ys => by simp [zw f xs ys]
theorem zip_ints : ∀ (xs ys : List Int), zip2D (xs.map D.int) (ys.map D.int) = (xs.zip ys).map fun p => .tup [.int p.1, .int p.2]
  | [], _ => by simp [zip2D]
  | _ :: _, [] => by simp [zip2D]
  | x :: xs, y :: ys => by
    have ih := zip_ints xs ys
    unfold zip2D at ih ⊢
    simp [ih]
theorem joined_f (n : Nat) (s : Sto) {k M i : Nat} {u v : List Int} (hu : u.length = k + 2) (hv : v.length = k + 2) (su : Sml M u) (sv : Sml M v) (h1 : 1 ≤ M) (hM : 2 * (M * M) ≤ BG) (hk : k ≤ 100) (hi : i ≤ k) : Fx (n + 3) 46 [kD u, kD v, .int (i : Nat)] s = .ok (kD (low k (jn k i u v))) s := by
  have MM : M ≤ M * M := Nat.le_mul_of_pos_left _ h1
  rw [c46]
  have cu := (cut_m1 (u.map D.int) (k + 1) (by simp [hu])).1
  have cv := (cut_m1 (v.map D.int) (k + 1) (by simp [hv])).1
  have i1 := ix_kD (w := u) (i := i) (by omega) (s := s)
  have i2 := ix_kD (w := v) (i := i) (by omega) (s := s)
  have m1 := ix_m1 (u.map D.int) (k + 1) (.int (cf u (k + 1))) (by simp [hu]) (by simp [cf, hu]) (s := s)
  have m2 := ix_m1 (v.map D.int) (k + 1) (.int (cf v (k + 1))) (by simp [hv]) (by simp [cf, hv]) (s := s)
  have bu : (cf u i).natAbs ≤ M := su _ (List.mem_of_mem_take (cf_mem hu hi))
  have bv : (cf v i).natAbs ≤ M := sv _ (List.mem_of_mem_take (cf_mem hv hi))
  have l : lcL [6, 7] (gTp 2 (gCons (gNm 6) (gCons (gNm 7) gNil))) mYes (mOp2 (opAdd false) (mOp2 (opMul false) (mVar 5) (mVar 6)) (mOp2 (opMul false) (mVar 4) (mVar 7))) none (((u.take (k + 1)).zip (v.take (k + 1))).map fun p => .tup [.int p.1, .int p.2])
      [some (kD u), some (kD v), some (.int (i : Nat)), none, some (.int (cf u i)), some (.int (0 - cf v i)), none, none] (((u.take (k + 1)).zip (v.take (k + 1))).map fun p => .tup [.int p.1, .int p.2]) s [] = .ok ([] ++ ((u.take (k + 1)).zip (v.take (k + 1))).map fun p => D.int ((0 - cf v i) * p.1 + cf u i * p.2)) s :=
    lc_mapA (h := fun p : Int × Int => D.tup [.int p.1, .int p.2]) _ [] fun p hp => ⟨[some (kD u), some (kD v), some (.int (i : Nat)), none, some (.int (cf u i)), some (.int (0 - cf v i)), some (.int p.1), some (.int p.2)], by simp, by
      have h1 := su _ (List.mem_of_mem_take (List.of_mem_zip hp).1)
      have h2 := sv _ (List.mem_of_mem_take (List.of_mem_zip hp).2)
      have q1 := o_mulW false (0 - cf v i) p.1 (s := s) (by omega) (by omega)
      have q2 := o_mulW false (cf u i) p.2 (s := s) (by omega) (by omega)
      simp only [x_op2, x_varS, x_var0, R.bd_ok, q1, q2, o_add]⟩
  have ej : ((u.take (k + 1)).zip (v.take (k + 1))).map (fun p => D.int ((0 - cf v i) * p.1 + cf u i * p.2)) ++ [D.int (max (cf u (k + 1)) (cf v (k + 1)))] = (jn k i u v).map D.int := by
    unfold jn
    rw [zw]
    simp
  have sj : Sml (2 * (M * M)) (jn k i u v) := fun a ha => by
    unfold jn at ha
    rcases List.mem_append.mp ha with ha | ha
    · rw [zw] at ha
      obtain ⟨p, hp, rfl⟩ := List.mem_map.mp ha
      have h1 := su _ (List.mem_of_mem_take (List.of_mem_zip hp).1)
      have h2 := sv _ (List.mem_of_mem_take (List.of_mem_zip hp).2)
      have t := Int.natAbs_add_le ((0 - cf v i) * p.1) (cf u i * p.2)
      rw [Int.natAbs_mul, Int.natAbs_mul] at t
      have e : (0 - cf v i).natAbs = (cf v i).natAbs := by omega
      rw [e] at t
      have a1 := Nat.mul_le_mul bv h1
      have a2 := Nat.mul_le_mul bu h2
      omega
    · rw [List.mem_singleton.mp ha]
      have q1 : (cf u (k + 1)).natAbs ≤ M := su _ (by unfold cf; simp [hu])
      have q2 : (cf v (k + 1)).natAbs ≤ M := sv _ (by unfold cf; simp [hv])
      omega
  have q := lowered_f n s (len_jn (i := i) hu hv) sj (by omega) hM hk
  unfold runB m_law_joined_wish
  rw [if_pos (show [kD u, kD v, .int (i : Nat)].length = 3 from rfl)]
  refine wp_eq ?_
  rw [wp_bd']
  refine wp_seq (R.wp_mono (Q := fun f s1 => s1 = s ∧ f = .nx [some (kD u), some (kD v), some (.int (i : Nat)), none, some (.int (cf u i)), some (.int (0 - cf v i)), none, none]) ?_ ?_)
  · simp [i1, i2]
  rintro _ s1 ⟨rfl, rfl⟩
  rw [List.nil_append, ← zip_ints, List.map_take, List.map_take, ← cu, ← cv] at l
  refine wp_seq (R.wp_mono (Q := fun f s2 => s2 = s1 ∧ f = .nx [some (kD u), some (kD v), some (.int (i : Nat)), some (.lst (((u.take (k + 1)).zip (v.take (k + 1))).map fun p => D.int ((0 - cf v i) * p.1 + cf u i * p.2))), some (.int (cf u i)), some (.int (0 - cf v i)), none, none]) ?_ ?_)
  · simp [kD] at l ⊢
    simp [l]
  rintro _ s2 ⟨rfl, rfl⟩
  have mx : opMax [.int (cf u (k + 1)), .int (cf v (k + 1))] s2 = .ok (.int (max (cf u (k + 1)) (cf v (k + 1)))) s2 := by
    rw [o_max]
    congr 2
    split <;> omega
  have a1 := opAdd_tup false (((u.take (k + 1)).zip (v.take (k + 1))).map fun p => D.int ((0 - cf v i) * p.1 + cf u i * p.2)) [D.int (max (cf u (k + 1)) (cf v (k + 1)))] (s := s2) (by simp; omega)
  rw [ej] at a1
  have t1 : ∀ L, opTupOf (.lst L) s2 = .ok (.tup L) s2 := fun L => rfl
  simp only [kD] at m1 m2 q
  simp [kD, m1, m2, t1]
  simp at a1 mx
  simp [a1, mx, q]
end K03
set_option maxHeartbeats 400000
set_option exponentiation.threshold 9000
namespace K03
open PySem PySem.Spec L2 Rf Lp
theorem srt_le (ks : List (List Int)) : (srtL ks).length ≤ ks.length := nodup_le _ _ (str_srtL ks).nodup fun x hx => mem_srtL.mp hx
theorem cnt_step (z p q N : Nat) (h : z + p + q ≤ N) (hN : N ≤ 12) : z + p * q ≤ (if N ≤ 7 then 12 else 36) := by
  have hp : p < 13 := by omega
  have hq : q < 13 := by omega
  have key : ∀ p, p < 13 → ∀ q, q < 13 → (p + q ≤ 7 → (7 - p - q) + p * q ≤ 12) ∧ (p + q ≤ 12 → (12 - p - q) + p * q ≤ 36) := by decide
  have := key p hp q hq
  split
  · have := this.1 (by omega)
    omega
  · have := this.2 (by omega)
    omega
section
variable {k M : Nat} {ws : List (List Int)}
/-- few are left at each turn -/
theorem run_few (hk : k ≤ 3) (hM : 1 ≤ M) (hw : ∀ w ∈ ws, W0 k M w) (hl : ws.length ≤ 7) : ∀ j, j ≤ k → (runF srtL k ws j).length < 63 ∧ (j = 0 → (runF srtL k ws j).length ≤ 7) ∧ (j = 1 → (runF srtL k ws j).length ≤ 12)
  | 0, _ => by
    have := srt_le (ws.map (low k))
    rw [List.length_map] at this
    show (srtL (ws.map (low k))).length < 63 ∧ (0 = 0 → (srtL (ws.map (low k))).length ≤ 7) ∧ (0 = 1 → (srtL (ws.map (low k))).length ≤ 12)
    omega
  | j + 1, hj => by
    have ih := run_few hk hM hw hl j (by omega)
    by_cases e : j + 1 = 3
    · have ek : k = 3 := by omega
      have few := last_few (S := srtL) (fun l w => mem_srtL) hM hw
      have u : (runF srtL k ws k).length ≤ 6 := by
        have := nodup_le (runF srtL k ws k) [List.replicate k 0 ++ [-1, 0], List.replicate k 0 ++ [-1, 1], List.replicate k 0 ++ [0, 0], List.replicate k 0 ++ [0, 1], List.replicate k 0 ++ [1, 0], List.replicate k 0 ++ [1, 1]] (by
          rw [ek]
          exact (str_srtL _).nodup) fun w hm => by
            obtain ⟨b, s, hb, hs, rfl⟩ := few w hm
            rcases hb with rfl | rfl | rfl <;> rcases hs with rfl | rfl <;> simp
        simpa using this
      rw [ek] at u ⊢
      rw [e]
      omega
    · have st : (runF srtL k ws (j + 1)).length ≤ (stM k j (runF srtL k ws j)).length := srt_le _
      obtain ⟨z, p, q, h1, h2⟩ := len_stM k j (runF srtL k ws j)
      have : j = 0 ∨ j = 1 := by omega
      rcases this with rfl | rfl
      · have a := ih.2.1 rfl
        have c := cnt_step z p q 7 (by omega) (by omega)
        simp at c
        omega
      · have a := ih.2.2 rfl
        have c := cnt_step z p q 12 (by omega) (by omega)
        simp at c
        omega
theorem w0_sml {w : List Int} (h : W0 k M w) (hM : 1 ≤ M) : Sml M w := fun a ha => by
  obtain ⟨i, hi, rfl⟩ := List.getElem_of_mem ha
  have hl := h.len
  have e : w[i] = cf w i := by unfold cf; simp [List.getD_eq_getElem?_getD, List.getElem?_eq_getElem hi]
  rw [e]
  by_cases c : i ≤ k
  · exact h.b i c
  · have : i = k + 1 := by omega
    subst this
    have := h.fl
    omega
theorem lf_sml {j : Nat} {w : List Int} (h : Lf k M j w) (hM : 1 ≤ M) : Sml (Mb M j) w := fun a ha => by
  obtain ⟨i, hi, rfl⟩ := List.getElem_of_mem ha
  have hl := h.len
  have e : w[i] = cf w i := by unfold cf; simp [List.getD_eq_getElem?_getD, List.getElem?_eq_getElem hi]
  rw [e]
  by_cases c : i ≤ k
  · exact h.b i c
  · have : i = k + 1 := by omega
    subst this
    have := h.fl
    have := Mb_pos hM j
    omega
theorem okK_of {L : List (List Int)} {d : Nat} (hd : 1 ≤ d) (h : ∀ w ∈ L, w.length = d) (few : (srtL L).length < 63) : okK L = true := by
  unfold okK
  rw [Bool.and_eq_true, decide_eq_true_eq]
  refine ⟨?_, few⟩
  cases L with
  | nil => rfl
  | cons w L =>
    rw [Bool.and_eq_true, decide_eq_true_eq, List.all_eq_true]
    have := h w (.head _)
    exact ⟨by omega, fun x hx => decide_eq_true (by rw [h x hx, this])⟩
theorem srt_q {L : List (List Int)} {d : Nat} (hd : 1 ≤ d) (h : ∀ w ∈ L, w.length = d) (few : (srtL L).length < 63) {s : Sto} : opSrt false (.lst (L.map kD)) s = .ok (.lst ((srtL L).map kD)) s := by
  show (match keysD (L.map kD) with | some ks => if okK ks then newL false ((srtL ks).map kD) s else .bad | none => .bad) = _
  rw [keysD_map]
  show (if okK L then newL false ((srtL L).map kD) s else .bad) = _
  rw [if_pos (okK_of hd h few)]
  rfl
theorem flat_len {α β γ : Type} (A : List α) (B : List β) (g : α → β → γ) : (A.flatMap fun u => B.map (g u)).length = A.length * B.length := by
  induction A with
  | nil => simp
  | cons u A ih => rw [List.flatMap_cons, List.length_append, ih, List.length_map, List.length_cons, Nat.succ_mul]; omega
/-- one unknown is taken out -/
theorem turn_f (n : Nat) (s : Sto) {j : Nat} {L : List (List Int)} (hj : j < k) (hk : k ≤ 3) (hM : 1 ≤ M) (hB : 2 * (Mb M j * Mb M j) ≤ BG) (ok : ∀ w ∈ L, Lf k M j w) (few : L.length < 63) (few2 : (srtL (stM k j L)).length < 63) (w0 : D) (z3 z4 z5 z6 z7 z8 : Option D) :
    ((mSeq (mAsg (gNm 4) (mLc false [7] (gNm 7) (mTest (mOp2 (opEq false) (mOp2 opIx (mVar 7) (mVar 3)) (mCst (.int 0)))) (mVar 7) (mIt (mVar 2))))
    (mSeq (mAsg (gNm 5) (mLc false [7] (gNm 7) (mTest (mOp2 (opCmp fun i j => decide (i < j)) (mOp2 opIx (mVar 7) (mVar 3)) (mCst (.int 0)))) (mVar 7) (mIt (mVar 2))))
    (mSeq (mFor (gNm 6) (mIt (mLc false [7] (gNm 7) (mTest (mOp2 (opCmp fun i j => decide (j < i)) (mOp2 opIx (mVar 7) (mVar 3)) (mCst (.int 0)))) (mVar 7) (mIt (mVar 2))))
    (mAsg (gNm 4) (mOp2 (opAdd false) (mVar 4) (mLc false [8] (gNm 8) mYes (mCall (Fx (n + 4)) 46 [.at 0, .at 1, .at 2] (mCons (mVar 6) (mCons (mVar 8) (mCons (mVar 3) mNil)))) (mIt (mVar 5))))))
    (mAsg (gNm 2) (mOp1 (opSrt false) (mVar 4)))))) [some w0, some (.int (k : Nat)), some (.lst (L.map kD)), some (.int (j : Nat)), z4, z5, z6, z7, z8] s).wp fun f s' => s' = s ∧ ∃ y4 y5 y6 y7 y8, f = .nx [some w0, some (.int (k : Nat)), some (.lst ((srtL (stM k j L)).map kD)), some (.int (j : Nat)), y4, y5, y6, y7, y8] := by
  have ix : ∀ w ∈ L, opIx (kD w) (.int (j : Nat)) s = .ok (.int (cf w j)) s := fun w hm => ix_kD (by have := (ok w hm).len; omega)
  have f0 := fun z4 z5 z6 z7 z8 => lc_fl (vs := [7]) (g := gNm 7) (mt := mTest (mOp2 (opEq false) (mOp2 opIx (mVar 7) (mVar 3)) (mCst (.int 0)))) (me := mVar 7) (o := none) (all := L.map kD) (env := [some w0, some (.int (k : Nat)), some (.lst (L.map kD)), some (.int (j : Nat)), z4, z5, z6, z7, z8]) (st := s) (fun w => decide (cf w j = 0)) kD kD rfl L [] fun w hm => ⟨_, rfl, by simp [ix w hm], fun _ => by simp⟩
  have f1 := fun z4 z5 z6 z7 z8 => lc_fl (vs := [7]) (g := gNm 7) (mt := mTest (mOp2 (opCmp fun i j => decide (i < j)) (mOp2 opIx (mVar 7) (mVar 3)) (mCst (.int 0)))) (me := mVar 7) (o := none) (all := L.map kD) (env := [some w0, some (.int (k : Nat)), some (.lst (L.map kD)), some (.int (j : Nat)), z4, z5, z6, z7, z8]) (st := s) (fun w => decide (cf w j < 0)) kD kD rfl L [] fun w hm => ⟨_, rfl, by simp [ix w hm], fun _ => by simp⟩
  have f2 := fun z4 z5 z6 z7 z8 => lc_fl (vs := [7]) (g := gNm 7) (mt := mTest (mOp2 (opCmp fun i j => decide (j < i)) (mOp2 opIx (mVar 7) (mVar 3)) (mCst (.int 0)))) (me := mVar 7) (o := none) (all := L.map kD) (env := [some w0, some (.int (k : Nat)), some (.lst (L.map kD)), some (.int (j : Nat)), z4, z5, z6, z7, z8]) (st := s) (fun w => decide (0 < cf w j)) kD kD rfl L [] fun w hm => ⟨_, rfl, by simp [ix w hm], fun _ => by simp⟩
  refine wp_seq (R.wp_mono (Q := fun f s1 => s1 = s ∧ f = .nx [some w0, some (.int (k : Nat)), some (.lst (L.map kD)), some (.int (j : Nat)), some (.lst ((L.filter fun w => decide (cf w j = 0)).map kD)), z5, z6, z7, z8]) ?_ ?_)
  · simp [f0]
  rintro _ s1 ⟨rfl, rfl⟩
  refine wp_seq (R.wp_mono (Q := fun f s2 => s2 = s1 ∧ f = .nx [some w0, some (.int (k : Nat)), some (.lst (L.map kD)), some (.int (j : Nat)), some (.lst ((L.filter fun w => decide (cf w j = 0)).map kD)), some (.lst ((L.filter fun w => decide (cf w j < 0)).map kD)), z6, z7, z8]) ?_ ?_)
  · simp [f1]
  rintro _ s2 ⟨rfl, rfl⟩
  refine wp_seq (R.wp_mono (Q := fun f s3 => s3 = s2 ∧ ∃ y6 y7 y8, f = .nx [some w0, some (.int (k : Nat)), some (.lst (L.map kD)), some (.int (j : Nat)), some (.lst ((stM k j L).map kD)), some (.lst ((L.filter fun w => decide (cf w j < 0)).map kD)), y6, y7, y8]) ?_ ?_)
  · simp [f2]
    refine for_wp (fun l env st => st = s2 ∧ ∃ (pre post : List (List Int)) (y6 y7 y8 : Option D), L.filter (fun w => decide (0 < cf w j)) = pre ++ post ∧ l = post.map kD ∧
      env = [some w0, some (.int (k : Nat)), some (.lst (L.map kD)), some (.int (j : Nat)), some (.lst ((L.filter (fun w => decide (cf w j = 0)) ++ pre.flatMap fun u => (L.filter fun w => decide (cf w j < 0)).map fun v => low k (jn k j u v)).map kD)), some (.lst ((L.filter fun w => decide (cf w j < 0)).map kD)), y6, y7, y8]) ?_ ?_ _ _ _ ⟨rfl, [], L.filter (fun w => decide (0 < cf w j)), z6, z7, z8, rfl, rfl, by simp⟩
    · rintro d l env st ⟨rfl, pre, post, y6, y7, y8, e, el, rfl⟩
      cases post with
      | nil => cases el
      | cons u post =>
        rw [List.map_cons] at el
        obtain ⟨rfl, rfl⟩ := List.cons.inj el
        have hu : u ∈ L := (List.mem_filter.mp (show u ∈ L.filter (fun w => decide (0 < cf w j)) by rw [e]; simp)).1
        have ou := ok u hu
        have lj := lc_mapA (vs := [8]) (g := gNm 8) (me := mCall (Fx (n + 4)) 46 [.at 0, .at 1, .at 2] (mCons (mVar 6) (mCons (mVar 8) (mCons (mVar 3) mNil)))) (all := (L.filter fun w => decide (cf w j < 0)).map kD) (st := st)
          (env := [some w0, some (.int (k : Nat)), some (.lst (L.map kD)), some (.int (j : Nat)), some (.lst ((L.filter (fun w => decide (cf w j = 0)) ++ pre.flatMap fun u => (L.filter fun w => decide (cf w j < 0)).map fun v => low k (jn k j u v)).map kD)), some (.lst ((L.filter fun w => decide (cf w j < 0)).map kD)), some (kD u), y7, y8])
          (h := kD) (f := fun v => kD (low k (jn k j u v))) (L.filter fun w => decide (cf w j < 0)) [] fun v hv => ⟨_, rfl, by
            have ov := ok v (List.mem_filter.mp hv).1
            have q := joined_f (n + 1) st (i := j) ou.len ov.len (lf_sml ou hM) (lf_sml ov hM) (Mb_pos hM j) hB (by omega) (by omega)
            simp [q]⟩
        have b1 : (L.filter fun w => decide (cf w j = 0)).length ≤ L.length := List.length_filter_le _ _
        have b2 : (L.filter fun w => decide (cf w j < 0)).length ≤ L.length := List.length_filter_le _ _
        have b3 : pre.length ≤ L.length := by
          have := List.length_filter_le (fun w => decide (0 < cf w j)) L
          rw [e] at this
          simp at this
          omega
        have b4 := flat_len pre (L.filter fun w => decide (cf w j < 0)) fun u v => low k (jn k j u v)
        have b5 : pre.length * (L.filter fun w => decide (cf w j < 0)).length ≤ 63 * 63 := Nat.mul_le_mul (by omega) (by omega)
        have ad := opAdd_lst ((L.filter (fun w => decide (cf w j = 0)) ++ pre.flatMap fun u => (L.filter fun w => decide (cf w j < 0)).map fun v => low k (jn k j u v)).map kD) ((L.filter fun w => decide (cf w j < 0)).map fun v => kD (low k (jn k j u v))) (s := st) (by
          simp only [List.length_map, List.length_append]
          rw [b4]
          omega)
        rw [List.nil_append] at lj
        simp only [x_gNm, wp_ok', List.set, x_asg, x_op2, x_varS, x_var0, R.bd_ok, x_lc, x_it, itemsD, lj, newL]
        simp only [Bool.false_eq_true, if_false, R.bd_ok, ad, x_gNm, wp_ok', List.set]
        exact ⟨trivial, pre ++ [u], post, some (kD u), y7, y8, by simp [e], rfl, by simp⟩
    · rintro env st ⟨rfl, pre, post, y6, y7, y8, e, el, rfl⟩
      cases post with
      | cons => cases el
      | nil =>
        rw [List.append_nil] at e
        refine ⟨rfl, y6, y7, y8, ?_⟩
        rw [← e]
        rfl
  rintro _ s3 ⟨rfl, y6, y7, y8, rfl⟩
  have len : ∀ w ∈ stM k j L, w.length = k + 2 := fun w hm => by
    rcases mem_stM.mp hm with ⟨hm, -⟩ | ⟨u, hu, v, hv, _, _, rfl⟩
    · exact (ok w hm).len
    · rw [len_low, len_jn (ok u hu).len (ok v hv).len]
  have sq := srt_q (d := k + 2) (by omega) len few2 (s := s3)
  simp only [x_asg, x_op1, x_varS, x_var0, R.bd_ok, sq, x_gNm, wp_ok', List.set]
  exact ⟨trivial, _, _, _, _, _, rfl⟩
theorem isvoid_f (n : Nat) (s : Sto) (hk : 1 ≤ k ∧ k ≤ 3) (hM : 1 ≤ M) (hB : 2 * (Mb M k * Mb M k) ≤ BG) (hw : ∀ w ∈ ws, W0 k M w) (hl : ws.length ≤ 7) :
    Fx (n + 5) 47 [.lst (ws.map kD), .int (k : Nat)] s = .ok (.bl ((runF srtL k ws k).any fun w => decide (cf w k < cf w (k + 1)))) s := by
  have few := run_few hk.2 hM hw hl
  have ok := runF_ok (S := srtL) (fun l w => mem_srtL) hM hw
  have mono : ∀ j, j ≤ k → Mb M j ≤ Mb M k := fun j hj => by
    obtain ⟨e, rfl⟩ : ∃ e, k = j + e := ⟨k - j, by omega⟩
    clear hj few ok hw hk hB
    induction e with
    | zero => exact Nat.le_refl _
    | succ e ih => exact Nat.le_trans ih (Mb_le hM _)
  have Mk : Mb M k ≤ Mb M k * Mb M k := Nat.le_mul_of_pos_left _ (Mb_pos hM k)
  rw [c47]
  unfold runB m_law_is_void
  rw [if_pos (show [D.lst (ws.map kD), .int (k : Nat)].length = 2 from rfl)]
  refine wp_eq ?_
  rw [wp_bd']
  -- the wishes lowered
  have l0 : lcL [7] (gNm 7) mYes (mCall (Fx (n + 4)) 45 [.at 0] (mCons (mVar 7) mNil)) none (ws.map kD) [some (.lst (ws.map kD)), some (.int (k : Nat)), none, none, none, none, none, none, none] (ws.map kD) s [] = .ok ([] ++ ws.map fun w => kD (low k w)) s :=
    lc_mapA (h := kD) ws [] fun w hm => ⟨_, rfl, by
      have q := lowered_f (n + 2) s (hw w hm).len (w0_sml (hw w hm) hM) hM (by have := mono 0 (by omega); show M ≤ BG; have : Mb M 0 = M := rfl; omega) (by omega)
      simp [q]⟩
  have e0 : (ws.map fun w => kD (low k w)) = (ws.map (low k)).map kD := by simp
  rw [List.nil_append, e0] at l0
  have s0 := srt_q (L := ws.map (low k)) (d := k + 2) (by omega) (fun w hm => by
    obtain ⟨v, hv, rfl⟩ := List.mem_map.mp hm
    rw [len_low, (hw v hv).len]) (few 0 (by omega)).1 (s := s)
  refine wp_seq (R.wp_mono (Q := fun f s1 => s1 = s ∧ f = .nx [some (.lst (ws.map kD)), some (.int (k : Nat)), some (.lst ((runF srtL k ws 0).map kD)), none, none, none, none, none, none]) ?_ ?_)
  · simp [l0, runF, -List.map_map, s0]
  rintro _ s1 ⟨rfl, rfl⟩
  have hr : rgB 0 (k : Nat) = true := rgB_yes _ _ (by omega) (by omega) (by omega) (by omega) (by omega)
  refine wp_seq (R.wp_mono (Q := fun f s2 => s2 = s1 ∧ ∃ z3 z4 z5 z6 z7 z8, f = .nx [some (.lst (ws.map kD)), some (.int (k : Nat)), some (.lst ((runF srtL k ws k).map kD)), z3, z4, z5, z6, z7, z8]) ?_ ?_)
  · simp [hr]
    rw [show (rgI 0 (k : Int)) = (List.range k).map fun i => D.int ((i : Nat) : Int) from rg_eq k]
    refine for_at (fun j env st => j ≤ k ∧ st = s1 ∧ ∃ z3 z4 z5 z6 z7 z8, env = [some (.lst (ws.map kD)), some (.int (k : Nat)), some (.lst ((runF srtL k ws j).map kD)), z3, z4, z5, z6, z7, z8]) ?_ ?_ _ _ ⟨by omega, rfl, _, _, _, _, _, _, rfl⟩
    · rintro j d env st hd ⟨hj, rfl, z3, z4, z5, z6, z7, z8, rfl⟩
      have hj2 : j < k := by
        have := (List.getElem?_eq_some_iff.mp hd).1
        simpa using this
      rw [List.getElem?_map, List.getElem?_range hj2] at hd
      cases hd
      have BB := Nat.mul_le_mul (mono j hj) (mono j hj)
      have tq := turn_f n st hj2 hk.2 hM (by omega) (ok j hj) (few j hj).1 (few (j + 1) hj2).1 (.lst (ws.map kD)) z3 z4 z5 z6 z7 z8
      rw [x_gNm, wp_ok']
      refine R.wp_mono tq fun f s2 h => ?_
      obtain ⟨rfl, y4, y5, y6, y7, y8, rfl⟩ := h
      exact ⟨hj2, rfl, _, _, _, _, _, _, rfl⟩
    · rintro env st ⟨hj, rfl, z3, z4, z5, z6, z7, z8, rfl⟩
      rw [List.length_map, List.length_range]
      exact ⟨rfl, _, _, _, _, _, _, rfl⟩
  rintro _ s2 ⟨rfl, z3, z4, z5, z6, z7, z8, rfl⟩
  have l9 : lcL [7] (gNm 7) mYes (mOp2 (opCmp fun i j => decide (i < j)) (mOp2 opIx (mVar 7) (mVar 1)) (mOp2 opIx (mVar 7) (mOp2 (opAdd false) (mVar 1) (mCst (.int 1))))) none ((runF srtL k ws k).map kD) [some (.lst (ws.map kD)), some (.int (k : Nat)), some (.lst ((runF srtL k ws k).map kD)), z3, z4, z5, z6, z7, z8] ((runF srtL k ws k).map kD) s2 [] = .ok ([] ++ (runF srtL k ws k).map fun w => .bl (decide (cf w k < cf w (k + 1)))) s2 :=
    lc_mapA (h := kD) _ [] fun w hm => ⟨_, rfl, by
      have q := (ok k (Nat.le_refl _) w hm).len
      have i1 := ix_kD (w := w) (i := k) (by omega) (s := s2)
      have i2 := ix_kD (w := w) (i := k + 1) (by omega) (s := s2)
      rw [show (((k + 1 : Nat) : Int)) = (k : Int) + 1 by omega] at i2
      simp [i1, i2]⟩
  simp [l9, o_anyA]
end
end K03
set_option maxHeartbeats 400000
set_option exponentiation.threshold 9000
namespace K03
open PySem PySem.Spec L2 Rf Lp
/-! ### a wish in whole numbers -/
def stepT (t : Nat) (q : Q) : Nat := t / Nat.gcd t q.2.natAbs * q.2.natAbs
def allT (l : List Q) : Nat := l.foldl stepT 1
theorem stepT_lcm (t : Nat) (q : Q) : stepT t q = Nat.lcm t q.2.natAbs := by
  unfold stepT Nat.lcm
  rw [Nat.mul_comm t, Nat.mul_div_assoc _ (Nat.gcd_dvd_left _ _), Nat.mul_comm]
theorem allT_aux : ∀ (l : List Q) (t : Nat), t ∣ l.foldl stepT t ∧ ∀ q ∈ l, q.2.natAbs ∣ l.foldl stepT t
  | [], t => ⟨Nat.dvd_refl _, nofun⟩
  | q :: l, t => by
    have ih := allT_aux l (stepT t q)
    have e := stepT_lcm t q
    refine ⟨Nat.dvd_trans (by rw [e]; exact Nat.dvd_lcm_left _ _) ih.1, fun p hp => ?_⟩
    rcases List.mem_cons.mp hp with rfl | hp
    · exact Nat.dvd_trans (by rw [e]; exact Nat.dvd_lcm_right _ _) ih.1
    · exact ih.2 p hp
theorem allT_pos : ∀ (l : List Q) (t : Nat), 0 < t → (∀ q ∈ l, 0 < q.2) → 0 < l.foldl stepT t
  | [], t, h, _ => h
  | q :: l, t, h, hq => by
    refine allT_pos l _ ?_ fun p hp => hq p (.tail _ hp)
    rw [stepT_lcm]
    have := hq q (.head _)
    exact Nat.pos_of_ne_zero fun z => by
      have := Nat.lcm_ne_zero (m := t) (n := q.2.natAbs) (by omega) (by omega)
      exact this z
theorem allT_le {A : Nat} : ∀ (l : List Q) (t : Nat), (∀ q ∈ l, q.2.natAbs ≤ A) → l.foldl stepT t ≤ t * A ^ l.length
  | [], t, _ => by simp
  | q :: l, t, h => by
    have ih := allT_le l (stepT t q) fun p hp => h p (.tail _ hp)
    have a := h q (.head _)
    have b : stepT t q ≤ t * A := by
      unfold stepT
      exact Nat.mul_le_mul (Nat.div_le_self _ _) a
    refine Nat.le_trans ih ?_
    rw [List.length_cons, Nat.pow_succ, Nat.mul_comm (A ^ l.length) A, ← Nat.mul_assoc]
    exact Nat.mul_le_mul_right _ b
def wwI (r : List Q) (b : Q) (st : Int) : List Int := (r ++ [b]).map (fun q => q.1 * (((allT (r ++ [b]) : Nat) : Int) / q.2)) ++ [st]
theorem wwish_f (n : Nat) (s : Sto) {A : Nat} {r : List Q} {b : Q} (st : Int) (hr : ∀ q ∈ r ++ [b], bq A q) (hl : r.length ≤ 50) (h1 : 1 ≤ A) (hA : A ^ (r.length + 1) * A ≤ BG) : Fx (n + 2) 54 [rd r, qd b, .int st] s = .ok (kD (wwI r b st)) s := by
  have AA : A ≤ A ^ (r.length + 1) * A := Nat.le_mul_of_pos_left _ (Nat.pow_pos h1)
  have AP : A ^ (r.length + 1) ≤ A ^ (r.length + 1) * A := Nat.le_mul_of_pos_right _ h1
  have Tb := allT_le (A := A) (r ++ [b]) 1 fun q hq => (hr q hq).2.2
  have Tp := allT_pos (r ++ [b]) 1 (by omega) fun q hq => (hr q hq).1
  rw [Nat.one_mul, List.length_append, List.length_singleton] at Tb
  have ad := opAdd_tup false (r.map qd) [qd b] (s := s) (by simp; omega)
  have e0 : r.map qd ++ [qd b] = (r ++ [b]).map qd := by simp
  rw [e0] at ad
  rw [c54]
  unfold runB m_law_whole_wish
  rw [if_pos (show [rd r, qd b, .int st].length = 3 from rfl)]
  refine wp_eq ?_
  rw [wp_bd']
  refine wp_seq ?_
  simp only [x_asg, x_cst, R.bd_ok, x_gNm, wp_ok', List.replicate, List.map_cons, List.map_nil, List.cons_append, List.nil_append, List.set]
  refine wp_seq (R.wp_mono (Q := fun f s1 => s1 = s ∧ ∃ z, f = .nx [some (rd r), some (qd b), some (.int st), some (.int ((allT (r ++ [b]) : Nat) : Int)), z]) ?_ ?_)
  · rw [x_for]
    simp only [x_it, x_op2, x_varS, x_var0, R.bd_ok, x_opN, x_cons, x_nil]
    rw [o_tup _ (by simp)]
    simp only [R.bd_ok, rd, ad, itemsD]
    refine for_wp (fun l env st' => st' = s ∧ ∃ (pre post : List Q) (z : Option D), r ++ [b] = pre ++ post ∧ l = post.map qd ∧ env = [some (rd r), some (qd b), some (.int st), some (.int ((pre.foldl stepT 1 : Nat) : Int)), z]) ?_ ?_ _ _ _ ⟨rfl, [], r ++ [b], none, rfl, rfl, rfl⟩
    · rintro d l env st' ⟨rfl, pre, post, z, e, el, rfl⟩
      cases post with
      | nil => cases el
      | cons q post =>
        rw [List.map_cons] at el
        obtain ⟨rfl, rfl⟩ := List.cons.inj el
        have hq := hr q (by rw [e]; simp)
        have hp := allT_pos pre 1 (by omega) fun p hp => (hr p (by rw [e]; simp [hp])).1
        have hb := allT_le (A := A) pre 1 fun p hp => (hr p (by rw [e]; simp [hp])).2.2
        have hln : pre.length ≤ r.length := by
          have := congrArg List.length e
          simp at this
          omega
        have hb2 : pre.foldl stepT 1 ≤ A ^ (r.length + 1) := Nat.le_trans hb (by rw [Nat.one_mul]; exact Nat.pow_le_pow_right h1 (by omega))
        generalize ht : pre.foldl stepT 1 = t at *
        have cm := common_f n st' (t : Nat) q.2 (by have := hq.2.2; omega)
        simp only [Int.natAbs_natCast] at cm
        have gp : 0 < Nat.gcd t q.2.natAbs := Nat.gcd_pos_of_pos_left _ hp
        have gl : Nat.gcd t q.2.natAbs ≤ t := Nat.gcd_le_left _ hp
        have d1 := o_divW (t : Nat) ((Nat.gcd t q.2.natAbs : Nat) : Int) (s := st') (by omega) (by omega)
        obtain ⟨x, hx⟩ : ∃ x, x = t / Nat.gcd t q.2.natAbs := ⟨_, rfl⟩
        have dl : x ≤ t := by rw [hx]; exact Nat.div_le_self _ _
        have e3 : ((t : Nat) : Int) / ((Nat.gcd t q.2.natAbs : Nat) : Int) = ((x : Nat) : Int) := by rw [hx]; simp
        have e4 : ((x : Nat) : Int) * q.2 = ((stepT t q : Nat) : Int) := by
          unfold stepT
          rw [← hx, Int.natCast_mul]
          congr 1
          have := hq.1
          omega
        clear hx
        rw [e3] at d1
        have m1 := o_mulW false ((x : Nat) : Int) q.2 (s := st') (by omega) (by have := hq.2.2; omega)
        rw [e4] at m1
        have i1 : opIx (qd q) (.int 1) st' = .ok (.int q.2) st' := o_ix1 _ _ _
        simp [i1, cm, d1, m1]
        exact ⟨pre ++ [q], post, by simp [e], rfl, by simp [ht]⟩
    · rintro env st' ⟨rfl, pre, post, z, e, el, rfl⟩
      cases post with
      | cons => cases el
      | nil =>
        rw [List.append_nil] at e
        refine ⟨rfl, z, ?_⟩
        rw [← e]
        rfl
  rintro _ s1 ⟨rfl, z, rfl⟩
  have l : lcL [4] (gNm 4) mYes (mOp2 (opMul false) (mOp2 opIx (mVar 4) (mCst (.int 0))) (mOp2 opDiv (mVar 3) (mOp2 opIx (mVar 4) (mCst (.int 1))))) none ((r ++ [b]).map qd) [some (rd r), some (qd b), some (.int st), some (.int ((allT (r ++ [b]) : Nat) : Int)), z] ((r ++ [b]).map qd) s1 [] = .ok ([] ++ (r ++ [b]).map fun q => D.int (q.1 * (((allT (r ++ [b]) : Nat) : Int) / q.2))) s1 :=
    lc_mapA (h := qd) _ [] fun q hq => ⟨_, rfl, by
      have hb := hr q hq
      have i0 : opIx (qd q) (.int 0) s1 = .ok (.int q.1) s1 := o_ix0 _ _
      have i1 : opIx (qd q) (.int 1) s1 = .ok (.int q.2) s1 := o_ix1 _ _ _
      have d1 := o_divW ((allT (r ++ [b]) : Nat) : Int) q.2 (s := s1) hb.1 (by have := hb.2.2; omega)
      have dl : ((((allT (r ++ [b]) : Nat) : Int) / q.2).natAbs) ≤ allT (r ++ [b]) := by
        have := hb.1
        have h0 : 0 ≤ ((allT (r ++ [b]) : Nat) : Int) / q.2 := Int.ediv_nonneg (by omega) (by omega)
        have := Int.ediv_le_self q.2 (show (0 : Int) ≤ ((allT (r ++ [b]) : Nat) : Int) by omega)
        omega
      have m1 := o_mulW false q.1 (((allT (r ++ [b]) : Nat) : Int) / q.2) (s := s1) (by have := hb.2.1; omega) (by unfold allT at dl ⊢; omega)
      simp only [x_op2, x_varS, x_var0, x_cst, R.bd_ok, i0, i1, d1, m1, List.set, wipeE]⟩
  have a2 := opAdd_tup false ((r ++ [b]).map fun q => D.int (q.1 * (((allT (r ++ [b]) : Nat) : Int) / q.2))) [.int st] (s := s1) (by simp; omega)
  have t1 : ∀ L, opTupOf (.lst L) s1 = .ok (.tup L) s1 := fun L => rfl
  have ee : ((r ++ [b]).map fun q => D.int (q.1 * (((allT (r ++ [b]) : Nat) : Int) / q.2))) ++ [.int st] = (wwI r b st).map D.int := by
    unfold wwI
    simp
  rw [ee] at a2
  simp only [x_ret, x_op2, x_opN, x_cons, x_nil, x_lc, x_it, x_varS, x_var0, R.bd_ok]
  rw [o_tup _ (by simp)]
  simp only [R.bd_ok, rd, ad, itemsD]
  rw [show (D.tup (r.map qd)) = rd r from rfl, l]
  simp only [R.bd_ok, List.nil_append, newL, Bool.false_eq_true, if_false, o_un1, t1]
  rw [o_tup _ (by simp)]
  simp only [R.bd_ok, a2, wp_ok']
  simp [kD]
end K03
set_option maxHeartbeats 400000
set_option exponentiation.threshold 9000
namespace K03
open PySem PySem.Spec L2 Rf Lp
theorem vl_T {q : Q} {T : Nat} (hq : 0 < q.2) (hd : q.2.natAbs ∣ T) : ((q.1 * ((T : Int) / q.2) : Int) : Rat) = ((T : Int) : Rat) * vl q := by
  have e : ((T : Nat) : Int) = q.2 * (((T : Nat) : Int) / q.2) := (Int.mul_ediv_cancel' (Int.natAbs_dvd_natAbs.mp (by simpa using hd))).symm
  have ne : ((q.2 : Int) : Rat) ≠ 0 := by
    have := Rat.intCast_lt_intCast.mpr hq
    intro z
    rw [z] at this
    exact absurd this (by decide)
  generalize ((T : Nat) : Int) / q.2 = y at *
  rw [e]
  unfold vl
  rw [Rat.intCast_mul, Rat.intCast_mul]
  have : ((q.1 : Int) : Rat) / ((q.2 : Int) : Rat) * ((q.2 : Int) : Rat) = ((q.1 : Int) : Rat) := Rat.div_mul_cancel ne
  generalize ((q.1 : Int) : Rat) / ((q.2 : Int) : Rat) = v at *
  rw [← this]
  grind
section
variable {m : Nat} {r : List Q} {b : Q} {st : Int}
theorem ww_len (hl : r.length = m) : (wwI r b st).length = m + 2 := by
  unfold wwI
  simp [hl]
theorem ww_at (hl : r.length = m) {j : Nat} (hj : j < m) : ∃ q, r[j]? = some q ∧ cf (wwI r b st) j = q.1 * (((allT (r ++ [b]) : Nat) : Int) / q.2) := by
  have hj' : j < r.length := by omega
  refine ⟨r[j], List.getElem?_eq_getElem hj', ?_⟩
  unfold cf wwI
  rw [List.getD_eq_getElem?_getD, List.getElem?_append_left (by simp; omega), List.getElem?_map, List.getElem?_append_left hj', List.getElem?_eq_getElem hj']
  rfl
theorem ww_m (hl : r.length = m) : cf (wwI r b st) m = b.1 * (((allT (r ++ [b]) : Nat) : Int) / b.2) := by
  unfold cf wwI
  rw [List.getD_eq_getElem?_getD, List.getElem?_append_left (by simp; omega), List.getElem?_map, List.getElem?_append_right (by omega)]
  simp [hl]
theorem ww_s (hl : r.length = m) : cf (wwI r b st) (m + 1) = st := by
  unfold cf wwI
  rw [List.getD_eq_getElem?_getD, List.getElem?_append_right (by simp; omega)]
  simp [hl]
theorem ww_ok {A : Nat} (hl : r.length = m) (hq : ∀ q ∈ r ++ [b], bq A q) (hs : 0 ≤ st ∧ st ≤ 1) : W0 m (A * A ^ (m + 1)) (wwI r b st) := by
  have Tb := allT_le (A := A) (r ++ [b]) 1 fun q h => (hq q h).2.2
  rw [Nat.one_mul, List.length_append, List.length_singleton, hl] at Tb
  have one : ∀ q ∈ r ++ [b], (q.1 * (((allT (r ++ [b]) : Nat) : Int) / q.2)).natAbs ≤ A * A ^ (m + 1) := fun q h => by
    have hb := hq q h
    rw [Int.natAbs_mul]
    refine Nat.mul_le_mul hb.2.1 (Nat.le_trans ?_ Tb)
    have := hb.1
    have h0 : 0 ≤ ((allT (r ++ [b]) : Nat) : Int) / q.2 := Int.ediv_nonneg (by omega) (by omega)
    have := Int.ediv_le_self q.2 (show (0 : Int) ≤ ((allT (r ++ [b]) : Nat) : Int) by omega)
    show _ ≤ allT (r ++ [b])
    omega
  refine ⟨ww_len hl, by rw [ww_s hl]; exact hs, fun j hj => ?_⟩
  by_cases c : j < m
  · obtain ⟨q, e, e2⟩ := ww_at (b := b) (st := st) hl c
    rw [e2]
    exact one q (List.mem_append_left _ (List.mem_of_getElem? e))
  · have : j = m := by omega
    subst this
    rw [ww_m hl]
    exact one b (by simp)
theorem kp_ww (hl : r.length = m) (hq : ∀ q ∈ r ++ [b], 0 < q.2) (z : Nat → Rat) : Lp.Kp m (wwI r b st) z ↔ sm m (fun i => fR r i * z i) ≤ vl b ∧ (0 < st → sm m (fun i => fR r i * z i) < vl b) := by
  have dv : ∀ q ∈ r ++ [b], q.2.natAbs ∣ allT (r ++ [b]) := (allT_aux (r ++ [b]) 1).2
  have Tp := allT_pos (r ++ [b]) 1 (by omega) hq
  have gp : (0 : Rat) < (((allT (r ++ [b]) : Nat) : Int) : Rat) := ipos (by unfold allT; omega)
  have e1 : sw m (wwI r b st) z = (((allT (r ++ [b]) : Nat) : Int) : Rat) * sm m (fun i => fR r i * z i) := by
    unfold sw
    rw [← sm_mul]
    refine sm_congr fun j hj => ?_
    obtain ⟨q, e, e2⟩ := ww_at (b := b) (st := st) hl hj
    have hm : q ∈ r ++ [b] := List.mem_append_left _ (List.mem_of_getElem? e)
    rw [e2, vl_T (hq q hm) (dv q hm), fR_at e]
    grind
  have e2 : ((cf (wwI r b st) m : Int) : Rat) = (((allT (r ++ [b]) : Nat) : Int) : Rat) * vl b := by
    rw [ww_m hl]
    exact vl_T (hq b (by simp)) (dv b (by simp))
  unfold Lp.Kp
  rw [ww_s hl, e1, e2]
  generalize (((allT (r ++ [b]) : Nat) : Int) : Rat) = G at *
  generalize sm m (fun i => fR r i * z i) = x
  generalize vl b = y
  have a1 : x ≤ y ↔ G * x ≤ G * y := ⟨fun q => Rat.mul_le_mul_of_nonneg_left q (Rat.le_of_lt gp), fun q => Classical.byContradiction fun c => by
    have := Rat.mul_lt_mul_of_pos_left (show y < x by grind) gp
    grind⟩
  have a2 : x < y ↔ G * x < G * y := ⟨fun q => Rat.mul_lt_mul_of_pos_left q gp, fun q => Classical.byContradiction fun c => by
    have := Rat.mul_le_mul_of_nonneg_left (show y ≤ x by grind) (Rat.le_of_lt gp)
    grind⟩
  rw [a1, a2]
end
section
variable {m : Nat} {ws : List W}
theorem lot_bq (h : LotOk m ws) {w : W} (hw : w ∈ ws) : ∀ q ∈ w.1 ++ [w.2], bq (10 ^ 15) q := fun q hq => by
  have g := h.w w hw
  rcases List.mem_append.mp hq with hq | hq
  · exact (g.2.1 q hq).2
  · rw [List.mem_singleton.mp hq]
    exact g.2.2.2
theorem lotw_f (n : Nat) (s : Sto) (h : LotOk m ws) : Fx (n + 3) 55 [ld m ws] s = .ok (.lst ((ws.map fun w => wwI w.1 w.2 0).map kD)) s := by
  have hn := h.hn
  rw [c55]
  have l : lcL [1, 2] (gTp 2 (gCons (gNm 1) (gCons (gNm 2) gNil))) mYes (mCall (Fx (n + 2)) 54 [.at 0, .at 1, .at 2] (mCons (mVar 1) (mCons (mVar 2) (mCons (mCst (.int 0)) mNil)))) none (ws.map wd) [some (ld m ws), none, none] (ws.map wd) s [] = .ok ([] ++ ws.map fun w => kD (wwI w.1 w.2 0)) s :=
    lc_mapA (h := wd) _ [] fun w hw => ⟨[some (ld m ws), some (rd w.1), some (qd w.2)], by simp [wd], by
      have hl := (h.w w hw).1
      have q := wwish_f n s (A := 10 ^ 15) (r := w.1) (b := w.2) 0 (lot_bq h hw) (by omega) (by omega) (by
        rw [hl]
        have : m = 1 ∨ m = 2 ∨ m = 3 ∨ m = 4 := by omega
        rcases this with h | h | h | h <;> rw [h] <;> exact le_bg (by decide +kernel))
      simp [q]⟩
  simp [runB, m_law_lot_wishes, ld1, l]
/-- the law's taking out tells whether a lot is void -/
theorem lvoid_f (n : Nat) (s : Sto) (h : LotOk m ws) (hm : m ≤ 3) (hl : ws.length ≤ 7) : ∃ v : Bool, Fx (n + 5) 47 [.lst ((ws.map fun w => wwI w.1 w.2 0).map kD), .int (m : Nat)] s = .ok (.bl v) s ∧ (v = true ↔ ¬ ∃ z : Nat → Rat, ∀ w ∈ ws, sm m (fun i => fR w.1 i * z i) ≤ vl w.2) := by
  have hn := h.hn
  have w0 : ∀ w ∈ ws.map fun w => wwI w.1 w.2 0, W0 m (10 ^ 15 * (10 ^ 15) ^ (m + 1)) w := fun w hw => by
    obtain ⟨v, hv, rfl⟩ := List.mem_map.mp hw
    exact ww_ok (h.w v hv).1 (lot_bq h hv) (by omega)
  have M1 : 1 ≤ 10 ^ 15 * (10 ^ 15) ^ (m + 1) := Nat.mul_pos (by omega) (Nat.pow_pos (by omega))
  refine ⟨_, isvoid_f n s ⟨hn.1, hm⟩ M1 (by
    have : m = 1 ∨ m = 2 ∨ m = 3 := by omega
    rcases this with h | h | h <;> rw [h] <;> exact le_bg (by decide +kernel)) w0 (by simpa using hl), ?_⟩
  rw [runF_void (fun l w => mem_srtL) M1 w0]
  refine not_congr (exists_congr fun z => ?_)
  constructor
  · intro k w hw
    exact ((kp_ww (h.w w hw).1 (fun q hq => (lot_bq h hw q hq).1) z).mp (k _ (List.mem_map.mpr ⟨w, hw, rfl⟩))).1
  · intro k w hw
    obtain ⟨v, hv, rfl⟩ := List.mem_map.mp hw
    exact (kp_ww (h.w v hv).1 (fun q hq => (lot_bq h hv q hq).1) z).mpr ⟨k v hv, fun c => absurd c (by decide)⟩
end
end K03
set_option maxHeartbeats 400000
set_option exponentiation.threshold 9000
namespace K03
open PySem PySem.Spec L2 Rf
theorem lotgen_f (n : Nat) (s : Sto) (u : Nat) (k0 w : Int) (U : Urn s u k0) (hk : k0 ≤ 10 ^ 30) (h0 : 1 ≤ w) (h1 : w ≤ 12) (mx : Int) (hm : 0 ≤ mx ∧ mx ≤ 8) :
    (Fx (n + 4) 5 [.ref u, .int w, .int mx] s).wp fun d s' => ∃ ws, d = .tup [.int w, .tup ws] ∧ (ws.length : Int) ≤ mx ∧ (∀ x ∈ ws, isW w x) ∧ Urn s' u (k0 + 1000) ∧ Kq u s s' := by
  rw [c5]
  have hu := U.lt
  unfold runB m_law_lot
  rw [if_pos (show [D.ref u, D.int w, D.int mx].length = 3 from rfl), wp_bd']
  refine wp_seq ?_
  simp only [x_asg, x_opN, x_nil, R.bd_ok, o_lstT [] (by simp), x_gNm, wp_ok', wp_bd']
  refine wp_seq ?_
  rw [x_for, wp_bd']
  refine R.wp_mono (Q := fun p st => ∃ t : Int, p = (rgI 0 t, none) ∧ 0 ≤ t ∧ t ≤ mx ∧ Urn st u (k0 + 1) ∧ st[s.length]? = some (.lst []) ∧ Kq u s st) ?_ ?_
  · simp
    refine R.wp_mono (draw_f (n + 2) _ u k0 _ (U.push _) (by omega) (by omega) (by omega)) fun d s1 h => ?_
    obtain ⟨x, rfl, x0, x1, U1, K1⟩ := h
    have hr : rgB 0 x = true := rgB_yes _ _ (by omega) (by omega) (by omega) (by omega) (by omega)
    simp [hr]
    exact ⟨x, rfl, x0, by omega, U1, K1.q.at_ (by omega) (app_at _ _), (Kq.push u s _).trans K1.q⟩
  · rintro _ st0 ⟨t, rfl, t0, t5, U0, hn0, K0⟩
    refine for_wp (fun l env st => ∃ acc z4 z5 z6 z7, env = [some (.ref u), some (.int w), some (.int mx), some (.ref s.length), z4, z5, z6, z7, none, none] ∧ st[s.length]? = some (.lst acc) ∧ ((acc.length + l.length : Nat) : Int) ≤ mx ∧ (∀ x ∈ acc, isW w x) ∧ Urn st u (k0 + 1 + 100 * acc.length) ∧ Kq u s st) ?_ ?_ _ _ _ ⟨[], none, none, none, none, rfl, hn0, by simp [rgI_len]; omega, nofun, by simpa using U0, K0⟩
    · rintro d r env st ⟨acc, z4, z5, z6, z7, rfl, ha, hl, hw, U', K⟩
      simp only [List.length_cons] at hl
      rw [x_gNm, wp_ok']
      refine wp_seq (R.wp_mono (Q := fun f s1 => ∃ (x : Int) (row : List D), f = .nx [some (.ref u), some (.int w), some (.int mx), some (.ref s.length), some d, some (.int x), some (.tup row), z7, none, none] ∧ 0 ≤ x ∧ x < 6 ∧ (row.length : Int) = w ∧ (∀ y ∈ row, isNum y) ∧ s1[s.length]? = some (.lst acc) ∧ Urn s1 u (k0 + 1 + 100 * acc.length + 41) ∧ Kq u s s1) ?_ ?_)
      · simp
        refine R.wp_mono (draw_f (n + 2) st u _ _ U' (by omega) (by omega) (by omega)) fun d s1 h => ?_
        obtain ⟨x, rfl, x0, x1, U1, K1⟩ := h
        refine R.wp_mono (lrowgen_f n s1 u _ w U1 (by omega) (by omega) h1) fun d s2 h => ?_
        obtain ⟨row, rfl, r1, r2, U2, K2⟩ := h
        simp
        exact ⟨x, row, ⟨rfl, rfl⟩, x0, x1, by omega, r2, K2.at_ (by omega) (K1.q.at_ (by omega) ha), U2.mono (by omega), (K.trans K1.q).trans K2⟩
      · rintro _ s1 ⟨x, row, rfl, x0, x1, r1, r2, ha1, U1, K1⟩
        refine wp_seq (R.wp_mono (Q := fun f s2 => ∃ (row : List D) (z : Option D), f = .nx [some (.ref u), some (.int w), some (.int mx), some (.ref s.length), some d, some (.int x), some (.tup row), z, none, none] ∧ (row.length : Int) = w ∧ (∀ y ∈ row, isNum y) ∧ s2[s.length]? = some (.lst acc) ∧ Urn s2 u (k0 + 1 + 100 * acc.length + 45) ∧ Kq u s s2) ?_ ?_)
        · by_cases c0 : x < 2
          · simp [c0]
            refine R.wp_mono (draw_f (n + 2) s1 u _ _ U1 (by omega) (by omega) (by omega)) fun d' s2 h => ?_
            obtain ⟨y, rfl, y0, y1, U2, K2⟩ := h
            have hr : rgB 0 w = true := rgB_yes _ _ (by omega) (by omega) (by omega) (by omega) (by omega)
            have e : ∀ env, env = [some (D.ref u), some (.int w), some (.int mx), some (.ref s.length), some d, some (.int x), some (.tup row), some (.int y), none, none] → lcL [8] (gNm 8) mYes (mIf (mTest (mOp2 (opEq false) (mVar 8) (mVar 7))) (mOpN opTup (mCons (mOp2 opSub (mCst (.int 1)) (mOp2 (opMul false) (mCst (.int 2)) (mVar 5))) (mCons (mCst (.int 1)) mNil))) (mOpN opTup (mCons (mCst (.int 0)) (mCons (mCst (.int 1)) mNil)))) none (rgI 0 w) env (rgI 0 w) s2 [] = .ok ([] ++ (rgI 0 w).map fun d => match d with | .int i => (if i = y then .tup [.int (1 - 2 * x), .int 1] else .tup [.int 0, .int 1]) | d => d) s2 := by
              rintro env rfl
              refine lc_map _ [] fun d' hd => ?_
              unfold rgI at hd
              obtain ⟨i, -, rfl⟩ := List.mem_map.mp hd
              refine ⟨_, rfl, ?_⟩
              by_cases q : (i : Int) = y
              · simp (disch := first | omega | (simp; done) | (simp; omega)) [q]
              · simp (disch := first | omega | (simp; done) | (simp; omega)) [q]
            simp [hr, e _ rfl]
            refine ⟨by rw [rgI_len]; omega, ?_, K2.q.at_ (by omega) ha1, U2.mono (by omega), K1.trans K2.q⟩
            intro z hz
            unfold rgI at hz
            obtain ⟨i, -, rfl⟩ := List.mem_map.mp hz
            show isNum (if (0 + ((i : Nat) : Int)) = y then .tup [.int (1 - 2 * x), .int 1] else .tup [.int 0, .int 1])
            split <;> exact ⟨_, _, rfl, by omega, by omega, by omega, by omega, by omega, by simp⟩
          · by_cases c2 : x = 2
            · subst c2
              simp [neNil ha1 hw]
              cases acc with
              | nil => simp; exact ⟨r1, r2, ha1, U1.mono (by simp), K1⟩
              | cons a0 acc =>
                simp
                refine R.wp_mono (ofS_f (n + 1) U1 (by simp at hl ⊢; omega) (by omega) ha1 (by simp) (by simp at hl ⊢; omega)) fun d' s2 h => ?_
                obtain ⟨hd, U2, K2⟩ := h
                obtain ⟨row', f, rfl, q1, q2, q3⟩ := hw _ hd
                have e : ∀ env, lcL [9] (gNm 9) mYes (mOpN opTup (mCons (mOp2 opSub (mCst (.int 0)) (mOp2 opIx (mVar 9) (mCst (.int 0)))) (mCons (mOp2 opIx (mVar 9) (mCst (.int 1))) mNil))) none row' [some (D.ref u), some (.int w), some (.int mx), some (.ref s.length), some d, some (.int 2), some (.tup row), z7, none, env] row' s2 [] = .ok ([] ++ row'.map fun d => match d with | .tup [.int a, .int b] => .tup [.int (-a), .int b] | d => d) s2 := by
                  intro env
                  refine lc_map _ [] fun d' hd => ?_
                  obtain ⟨a, b, rfl, _⟩ := q2 d' hd
                  exact ⟨_, rfl, by simp (disch := first | omega | (simp; done) | (simp; omega))⟩
                simp [e none]
                refine ⟨by omega, ?_, K2.q.at_ (by omega) ha1, U2.mono (by simp; omega), K1.trans K2.q⟩
                intro z hz
                obtain ⟨a, b, rfl, b1, b2, b3, b4, b5, b6⟩ := q2 z hz
                exact ⟨-a, b, rfl, by omega, by omega, b3, b4, b5, by simpa using b6⟩
            · simp [c0, c2]
              exact ⟨r1, r2, ha1, U1.mono (by omega), K1⟩
        · rintro _ s2 ⟨row, z, rfl, r1, r2, ha2, U2, K2⟩
          simp [lstD_ref ha2]
          refine R.wp_mono (number_f (n + 1) s2 u _ U2 (by omega)) fun d' s3 h => ?_
          obtain ⟨hd, U3, K3⟩ := h
          have ha3 := K3.q.at_ (by omega) ha2
          simp [opApp_ref ha3 (by omega)]
          refine ⟨acc ++ [.tup [.tup row, d']], set_at ha3 _, by simp; omega, ?_, (U3.other _ (by omega)).mono (by simp; omega), (K2.trans K3.q).new (Nat.le_refl _)⟩
          intro y hy
          rcases List.mem_append.mp hy with hy | hy
          · exact hw y hy
          · rw [List.mem_singleton.mp hy]
            exact ⟨row, d', rfl, r1, r2, hd⟩
    · rintro env st ⟨acc, z4, z5, z6, z7, rfl, ha, hl, hw, U', K⟩
      simp [opTupOf_ref ha]
      exact ⟨by simpa using hl, hw, U'.mono (by simp at hl; omega), K⟩
end K03
set_option maxHeartbeats 400000
set_option exponentiation.threshold 9000
namespace K03
open PySem PySem.Spec L2 Rf Lp
theorem num_q {d : D} (h : isNum d) : ∃ q, d = qd q ∧ (gd q ∧ bq 10 q ∧ q.2 ≤ 4) := by
  obtain ⟨a, b, rfl, h1, h2, h3, h4, h5, h6⟩ := h
  exact ⟨(a, b), rfl, ⟨h5, h6⟩, ⟨h5, by show a.natAbs ≤ 10; omega, by show b.natAbs ≤ 10; omega⟩, h4⟩
theorem ov_sm {D K : Nat} {f : Nat → Rat} (n : Nat) (h : ∀ i, i < n → Ov D K (f i)) : Ov D (n * K) (sm n f) := by
  induction n with
  | zero =>
    rw [Nat.zero_mul]
    exact ov_0 _ _
  | succ n ih =>
    simp only [sm]
    rw [Nat.succ_mul]
    exact ov_add (ih fun i hi => h i (by omega)) (h n (by omega))
def nums (r : List Q) : Prop := ∀ x ∈ r, gd x ∧ bq 10 x ∧ x.2 ≤ 4
theorem row_q {ds : List D} (h : ∀ x ∈ ds, isNum x) : ∃ r : List Q, ds = r.map qd ∧ nums r := listQ (f := qd) fun x hx => num_q (h x hx)
def wOk (m : Nat) (w : W) : Prop := w.1.length = m ∧ nums w.1 ∧ gd w.2 ∧ bq (10 ^ 12) w.2 ∧ Ov 144 57600 (vl w.2)
/-- there is one (kept shut before simp) -/
def Exi {α : Type} (P : α → Prop) : Prop := ∃ a, P a
def HH (ws : List W) (p : List Q) : Prop := ∀ w ∈ ws, holdsW w p = true
def Lw (m : Nat) (ws : List W) : Prop := ∀ w ∈ ws, wOk m w
theorem ov_num {q : Q} (h : gd q ∧ bq 10 q ∧ q.2 ≤ 4) : Ov 12 120 (vl q) := ov_12 h.1.1 h.2.2 h.2.1.2.1
theorem wish_q {m : Nat} {d : D} (h : isW (m : Int) d) : ∃ w, d = wd w ∧ wOk m w := by
  obtain ⟨row, f, rfl, h1, h2, h3⟩ := h
  obtain ⟨r, rfl, hr⟩ := row_q h2
  obtain ⟨q, rfl, hq⟩ := num_q h3
  refine ⟨(r, q), rfl, ?_, hr, hq.1, bq_mono (by omega) hq.2.1, ov_mono (by omega) (ov_up (D := 12) 12 (by omega) (by omega) (ov_num hq))⟩
  show r.length = m
  simp at h1
  omega
theorem lot_q {m : Nat} {ds : List D} (h : ∀ x ∈ ds, isW (m : Int) x) : ∃ ws, ds = ws.map wd ∧ Lw m ws := listQ (f := wd) fun x hx => wish_q (h x hx)
theorem Lw.lot {m : Nat} {ws : List W} (h : Lw m ws) (hm : 1 ≤ m ∧ m ≤ 4) (hl : ws.length ≤ 9) : LotOk m ws := ⟨hm, hl, fun v hv => ⟨(h v hv).1, fun x hx => ⟨((h v hv).2.1 x hx).1, bq_mono (by omega) ((h v hv).2.1 x hx).2.1⟩, (h v hv).2.2.1, bq_mono (by omega) (h v hv).2.2.2.1⟩⟩
theorem fR_ov {r : List Q} (h : nums r) (i : Nat) : Ov 12 120 (fR r i) := by
  unfold fR
  cases e : r[i]? with
  | none =>
    have : r.getD i (0, 1) = (0, 1) := by simp [List.getD_eq_getElem?_getD, e]
    rw [this, vl_0]
    exact ov_0 _ _
  | some q =>
    have : r.getD i (0, 1) = q := by simp [List.getD_eq_getElem?_getD, e]
    rw [this]
    exact ov_num (h q (List.mem_of_getElem? e))
theorem Lw.gl {m : Nat} {ws : List W} (h : Lw m ws) (hm : 1 ≤ m ∧ m ≤ 4) (hl : ws.length ≤ 8) : K03.Gl m ws := ⟨hm, hl, fun w hw i _ => ov_mono (by omega) (fR_ov (h w hw).2.1 i), fun w hw => (h w hw).2.2.2.2⟩
theorem Lw.okW {m : Nat} {ws : List W} (h : Lw m ws) : ∀ w ∈ ws, okW m w := fun w hw => ⟨by have := (h w hw).1; omega, fun x hx => ((h w hw).2.1 x hx).1, (h w hw).2.2.1⟩
/-- a row's product with a drawn row -/
theorem dot_ok {m : Nat} {r p : List Q} (hm : m ≤ 3) (hr : nums r) (hp : nums p) (h1 : r.length = m) (h2 : p.length = m) : gd (dotQ r p) ∧ bq (10 ^ 8) (dotQ r p) ∧ Ov 144 43200 (vl (dotQ r p)) := by
  have g := dotQ_gd (fun x hx => (hr x hx).1.1) fun y hy => (hp y hy).1.1
  have b := dotA_bq r p (0, 1) 1 (10 * 10) 3 ⟨by decide, by decide, by decide⟩ (fun x hx y hy => pmul_bq (hr x hx).2.1 (hp y hy).2.1) (by omega) (by omega)
  refine ⟨g, bq_mono (by decide) b, ?_⟩
  have v := (vl_dotA r p (0, 1) (by decide) (fun x hx => (hr x hx).1.1) (fun y hy => (hp y hy).1.1) (by omega)).1
  have e : vl (dotQ r p) = sm p.length (fun j => fR r j * fR p j) := by
    unfold dotQ
    rw [v, vl_0]
    grind
  rw [e, h2]
  have := ov_sm m fun i (_ : i < m) => ov_mul (D := 12) (E := 12) (by omega) (by omega) (fR_ov hr i) (fR_ov hp i)
  refine ov_mono ?_ this
  have := Nat.mul_le_mul_right (120 * 120) hm
  omega
theorem up_ok (p x : Q) (hp : 0 < p.2) (hx : 0 < x.2) (h : 0 ≤ x.1) : ple p (padd p x) = true := ple_up p x hp hx h
theorem inside_f (n : Nat) (s : Sto) (u : Nat) (k0 : Int) {m : Nat} (U : Urn s u k0) (hk : k0 ≤ 10 ^ 29) (hm : 1 ≤ m ∧ m ≤ 3) (mx : Int) (hx : 0 ≤ mx ∧ mx ≤ 8) :
    (Fx (n + 5) 10 [.ref u, .int m, .int mx] s).wp fun d s' => ∃ p ws, d = .tup [rd p, ld m ws] ∧ p.length = m ∧ nums p ∧ Lw m ws ∧ (ws.length : Int) ≤ mx ∧ HH ws p ∧ Urn s' u (k0 + 1100) ∧ Kq u s s' := by
  rw [c10]
  have hu := U.lt
  unfold runB m_law_inside
  rw [if_pos (show [D.ref u, D.int m, D.int mx].length = 3 from rfl), wp_bd']
  refine wp_seq (R.wp_mono (Q := fun f s1 => ∃ (p : List Q) (ws : List W) (v : Nat), f = .nx [some (.ref u), some (.int m), some (.int mx), some (rd p), some (ld m ws), some (.ref v), none, none, none] ∧ p.length = m ∧ nums p ∧ Lw m ws ∧ (ws.length : Int) ≤ mx ∧ s1[v]? = some (.lst []) ∧ v ≠ u ∧ s.length ≤ v ∧ Urn s1 u (k0 + 1040) ∧ Kq u s s1) ?_ ?_)
  · simp
    refine R.wp_mono (lrowgen_f (n + 1) s u k0 m U (by omega) (by omega) (by omega)) fun d s1 h => ?_
    obtain ⟨ds, rfl, h1, h2, U1, K1⟩ := h
    obtain ⟨p, rfl, hp⟩ := row_q h2
    refine R.wp_mono (lotgen_f n s1 u _ m U1 (by omega) (by omega) (by omega) mx hx) fun d s2 h => ?_
    obtain ⟨wl, rfl, w1, w2, U2, K2⟩ := h
    obtain ⟨ws, rfl, hw⟩ := lot_q w2
    have l1 := K1.1
    have l2 := K2.1
    have ul := U2.lt
    simp
    exact ⟨p, ws, s2.length, ⟨rfl, rfl, rfl⟩, by simp at h1; omega, hp, hw, by simpa using w1, by simp, by omega, by omega, (U2.push _).mono (by omega), (K1.trans K2).trans (Kq.push u s2 _)⟩
  rintro _ s1 ⟨p, ws, v, rfl, lp, hp, hw, hl, hv, vu, sv, U1, K1⟩
  refine wp_seq (R.wp_mono (Q := fun f s2 => ∃ (ws' : List W) (z6 z7 z8 : Option D), f = .nx [some (.ref u), some (.int m), some (.int mx), some (rd p), some (ld m ws), some (.ref v), z6, z7, z8] ∧ Lw m ws' ∧ (ws'.length : Int) ≤ mx ∧ HH ws' p ∧ s2[v]? = some (.lst (ws'.map wd)) ∧ Urn s2 u (k0 + 1100) ∧ Kq u s s2) ?_ ?_)
  · rw [x_for]
    simp only [x_it, x_op2, x_varS, x_var0, x_cst, R.bd_ok, ld1, itemsD]
    refine for_wp (fun l env st => ∃ (pre post ws' : List W) (z6 z7 z8 : Option D), ws = pre ++ post ∧ l = post.map wd ∧ env = [some (.ref u), some (.int m), some (.int mx), some (rd p), some (ld m ws), some (.ref v), z6, z7, z8] ∧ ws'.length = pre.length ∧ Lw m ws' ∧ HH ws' p ∧ st[v]? = some (.lst (ws'.map wd)) ∧ Urn st u (k0 + 1040 + pre.length) ∧ Kq u s st) ?_ ?_ _ _ _ ⟨[], ws, [], none, none, none, rfl, rfl, rfl, rfl, nofun, nofun, hv, by simpa using U1, K1⟩
    · rintro d l env st ⟨pre, post, ws', z6, z7, z8, e, el, rfl, l1, hw', hh, hv', U', K'⟩
      cases post with
      | nil => cases el
      | cons w post =>
        rw [List.map_cons] at el
        obtain ⟨rfl, rfl⟩ := List.cons.inj el
        have ow := hw w (by rw [e]; simp)
        obtain ⟨dg, db, dv⟩ := dot_ok (m := m) hm.2 ow.2.1 hp ow.1 lp
        have q1 := ldot_q (n + 1) st 10 10 w.1 p (fun x hx => (ow.2.1 x hx).2.1) (fun y hy => (hp y hy).2.1) 3 (by omega) (le_bg (by decide))
        have q2 := lup_q (n + 3) st (dotQ w.1 p) w.2 (10 ^ 8) (10 ^ 12) db ow.2.2.2.1 (le_bg (by decide)) (le_bg (by decide))
        have wl : ws.length = pre.length + (post.length + 1) := by rw [e]; simp
        have fin : ∀ (b : Q) (st2 : Sto), wOk m (w.1, b) → holdsW (w.1, b) p = true → st2[v]? = some (.lst (ws'.map wd)) → Urn st2 u (k0 + 1040 + pre.length + 1) → Kq u s st2 →
            (mExp (mMt opApp (mVar 5) (mOpN opTup (mCons (mVar 6) (mCons (mVar 7) mNil)))) [some (.ref u), some (.int m), some (.int mx), some (rd p), some (ld m ws), some (.ref v), some (rd w.1), some (qd b), some (qd (dotQ w.1 p))] st2).wp fun f s2 => ∃ e2, f = .nx e2 ∧ ∃ (pre post_1 ws' : List W) (z6 z7 z8 : Option D), ws = pre ++ post_1 ∧ post.map wd = post_1.map wd ∧ e2 = [some (.ref u), some (.int m), some (.int mx), some (rd p), some (ld m ws), some (.ref v), z6, z7, z8] ∧ ws'.length = pre.length ∧ Lw m ws' ∧ HH ws' p ∧ s2[v]? = some (.lst (ws'.map wd)) ∧ Urn s2 u (k0 + 1040 + pre.length) ∧ Kq u s s2 := by
          intro b st2 ob hb hv2 U2 K2
          have ap := opApp_ref hv2 (y := wd (w.1, b)) (by simp; omega)
          simp only [x_exp, x_mt, x_varS, x_var0, R.bd_ok, lstD_ref hv2, Option.isSome_some, if_true, x_opN, x_cons, x_nil]
          rw [o_tup _ (by simp)]
          simp only [R.bd_ok]
          rw [show D.tup [rd w.1, qd b] = wd (w.1, b) from rfl, ap]
          simp only [R.bd_ok, wp_ok']
          refine ⟨_, rfl, pre ++ [w], post, ws' ++ [(w.1, b)], _, _, _, by simp [e], rfl, rfl, by simp [l1], ?_, ?_, ?_, (U2.other _ (by omega)).mono (by simp; omega), K2.new (by omega)⟩
          · intro x hx
            rcases List.mem_append.mp hx with hx | hx
            · exact hw' x hx
            · rw [List.mem_singleton.mp hx]
              exact ob
          · intro x hx
            rcases List.mem_append.mp hx with hx | hx
            · exact hh x hx
            · rw [List.mem_singleton.mp hx]
              exact hb
          · rw [List.map_append]
            exact set_at hv2 _
        have bd : (mSeq (mAsg (gNm 8) (mCall (Fx (n + 4)) 8 [.at 0, .at 1] (mCons (mVar 6) (mCons (mVar 3) mNil))))
            (mSeq (mIfS (mNotT (mTest (mCall (Fx (n + 4)) 9 [.at 0, .at 1] (mCons (mVar 8) (mCons (mVar 7) mNil)))))
            (mAsg (gNm 7) (mCall (Fx (n + 4)) 6 [.at 0, .at 1] (mCons (mVar 8) (mCons (mCall (Fx (n + 4)) 4 [.at 0, .at 1] (mCons (mVar 0) (mCons (mOpN opTup (mCons (mOpN opTup (mCons (mCst (.int 0)) (mCons (mCst (.int 1)) mNil))) (mCons (mOpN opTup (mCons (mCst (.int 1)) (mCons (mCst (.int 2)) mNil))) (mCons (mOpN opTup (mCons (mCst (.int 2)) (mCons (mCst (.int 1)) mNil))) mNil)))) mNil))) mNil))))
            mPass)
            (mExp (mMt opApp (mVar 5) (mOpN opTup (mCons (mVar 6) (mCons (mVar 7) mNil)))))) [some (.ref u), some (.int m), some (.int mx), some (rd p), some (ld m ws), some (.ref v), some (rd w.1), some (qd w.2), z8] st).wp fun f s2 => ∃ e2, f = .nx e2 ∧ ∃ (pre post_1 ws' : List W) (z6 z7 z8 : Option D), ws = pre ++ post_1 ∧ post.map wd = post_1.map wd ∧ e2 = [some (.ref u), some (.int m), some (.int mx), some (rd p), some (ld m ws), some (.ref v), z6, z7, z8] ∧ ws'.length = pre.length ∧ Lw m ws' ∧ HH ws' p ∧ s2[v]? = some (.lst (ws'.map wd)) ∧ Urn s2 u (k0 + 1040 + pre.length) ∧ Kq u s s2 := by
          refine wp_seq (R.wp_mono (Q := fun f s2 => s2 = st ∧ f = .nx [some (.ref u), some (.int m), some (.int mx), some (rd p), some (ld m ws), some (.ref v), some (rd w.1), some (qd w.2), some (qd (dotQ w.1 p))]) ?_ ?_)
          · simp [q1]
          rintro _ s2 ⟨rfl, rfl⟩
          refine wp_seq (R.wp_mono (Q := fun f s3 => Exi fun b : Q => f = .nx [some (.ref u), some (.int m), some (.int mx), some (rd p), some (ld m ws), some (.ref v), some (rd w.1), some (qd b), some (qd (dotQ w.1 p))] ∧ wOk m (w.1, b) ∧ holdsW (w.1, b) p = true ∧ s3[v]? = some (.lst (ws'.map wd)) ∧ Urn s3 u (k0 + 1040 + pre.length + 1) ∧ Kq u s s3) ?_ ?_)
          · by_cases c : ple (dotQ w.1 p) w.2 = true
            · simp [q2, c]
              exact ⟨w.2, rfl, ow, c, hv', U'.mono (by omega), K'⟩
            · have c' : ple (dotQ w.1 p) w.2 = false := Bool.eq_false_iff.mpr c
              simp [q2, c']
              refine R.wp_mono (of_f (n + 2) s2 u _ _ U' (by omega) (by simp) (by simp)) fun d s3 h => ?_
              obtain ⟨hd, U3, K3⟩ := h
              have : ∃ x : Q, d = qd x ∧ gd x ∧ bq 2 x ∧ 0 ≤ x.1 ∧ Ov 12 24 (vl x) := by
                simp at hd
                rcases hd with rfl | rfl | rfl
                · exact ⟨(0, 1), rfl, ⟨by decide, by decide⟩, ⟨by decide, by decide, by decide⟩, by decide, ov_12 (p := (0, 1)) (A := 2) (by decide) (by decide) (by decide)⟩
                · exact ⟨(1, 2), rfl, ⟨by decide, by decide⟩, ⟨by decide, by decide, by decide⟩, by decide, ov_12 (p := (1, 2)) (A := 2) (by decide) (by decide) (by decide)⟩
                · exact ⟨(2, 1), rfl, ⟨by decide, by decide⟩, ⟨by decide, by decide, by decide⟩, by decide, ov_12 (p := (2, 1)) (A := 2) (by decide) (by decide) (by decide)⟩
              obtain ⟨x, rfl, xg, xb, x0, xo⟩ := this
              have q3 := lplus_q (n + 2) s3 (dotQ w.1 p) x (10 ^ 8) 2 db xb (le_bg (by decide))
              simp [q3]
              refine ⟨padd (dotQ w.1 p) x, rfl, ⟨ow.1, ow.2.1, padd_gd dg.1 xg.1, bq_mono (by decide) (padd_bq db xb), ?_⟩, up_ok _ _ dg.1 xg.1 x0, K3.q.at_ (by omega) hv', U3.mono (by omega), K'.trans K3.q⟩
              show Ov 144 57600 (vl (padd (dotQ w.1 p) x))
              rw [vl_padd dg.1 xg.1]
              exact ov_mono (by omega) (ov_add dv (ov_up (D := 12) 12 (by omega) (by omega) xo))
          rintro _ s3 ⟨b, rfl, ob, hb, hv3, U3, K3⟩
          exact fin b s3 ob hb hv3 U3 K3
        show (gTp 2 _ (.tup [rd w.1, qd w.2]) _ _).wp _
        rw [x_gTp 2 _ _ (by simp)]
        simp only [x_gCons, x_gNm, x_gNil, R.bd_ok, wp_ok', List.set]
        refine R.wp_mono bd fun f s2 h => ?_
        obtain ⟨e2, rfl, h⟩ := h
        exact h
    · rintro env st ⟨pre, post, ws', z6, z7, z8, e, el, rfl, l1, hw', hh, hv', U', K'⟩
      cases post with
      | cons => cases el
      | nil =>
        have wl : ws.length = pre.length := by rw [e]; simp
        exact ⟨ws', z6, z7, z8, rfl, hw', by omega, hh, hv', U'.mono (by omega), K'⟩
  rintro _ s2 ⟨ws', z6, z7, z8, rfl, hw', hl', hh, hv2, U2, K2⟩
  simp [opTupOf_ref hv2]
  exact ⟨p, ws', ⟨rfl, rfl⟩, lp, hp, hw', hl', hh, U2, K2⟩
end K03
set_option maxHeartbeats 400000
set_option exponentiation.threshold 9000
namespace K03
open PySem PySem.Spec L2 Rf Lp
theorem shw_intB {i : Int} (h : i.natAbs < 2 ^ 1900) (k : Nat) : shw 1921 k (.int i) := ⟨.int i, by simp [toP], by
    simp only [PyData.showable]
    by_cases e : i.natAbs = 0
    · rw [e]; decide
    · exact decide_eq_true (Nat.lt_trans ((Nat.log2_lt e).mpr h) (by decide)), by simp [PyData.hasDict], by simp only [wtP]; split <;> omega, by simp [PyData.depth]⟩
theorem shw_rqB {A : Nat} {x : Rat} (h : bz A x) (hA : A < 2 ^ 1900) : shw 3850 1 (rq x) := by
  have h1 := h.1
  have h2 := h.2
  have a : shw 1921 0 (.int x.num) := shw_intB (by omega) 0
  have b : shw 1921 0 (.int (x.den : Int)) := shw_intB (by omega) 0
  exact shw_mono (shw_two a b) (by omega) (by omega)
theorem shw_rlB {A k : Nat} {f : Nat → Rat} (hk : k ≤ 10) (h : ∀ i, i < k → bz A (f i)) (hA : A < 2 ^ 1900) : shw 40000 2 (.tup (rl k f)) := shw_mono (shw_all (n := 10) (W := 3850) (m := 1) (by simpa using hk) fun x hx => by
  obtain ⟨j, hj, rfl⟩ := List.mem_map.mp hx
  exact shw_rqB (h j (List.mem_range.mp hj)) hA) (by omega) (by omega)
theorem bl_repr (b : Bool) : ∃ x, ∀ s, opRepr [.bl b] s = .ok (.str x) s := shw_repr (W := 5) (m := 5) ⟨.bool b, by simp [toP], by simp [PyData.showable], by simp [PyData.hasDict], by simp [wtP], by simp [PyData.depth]⟩ (by omega) (by omega)
theorem non_repr : ∃ x, ∀ s, opRepr [.non] s = .ok (.str x) s := shw_repr (W := 5) (m := 5) ⟨.none, by simp [toP], by simp [PyData.showable], by simp [PyData.hasDict], by simp [wtP], by simp [PyData.depth]⟩ (by omega) (by omega)
section
variable {m : Nat} {ws : List W}
def Sat (m : Nat) (ws : List W) : Prop := ∃ z : Nat → Rat, ∀ w ∈ ws, sm m (fun i => fR w.1 i * z i) ≤ vl w.2
/-- what point_of tells -/
def PtRes (m : Nat) (ws : List W) (d : D) : Prop := (d = .non ∧ ¬ Sat m ws) ∨ ∃ y : Nat → Rat, (∀ i, i < m → bz (PW m) (y i)) ∧ (∀ w ∈ ws, sm m (fun i => fR w.1 i * y i) ≤ vl w.2) ∧ d = .tup (rl m y)
theorem void_not {lam : Nat → Rat} (h0 : ∀ j, j < ws.length → 0 ≤ lam j) (h1 : ∀ i, i < m → sm ws.length (fun j => RW ws j i * lam j) = 0) (h2 : sm ws.length (fun j => BW ws j * lam j) = -1) : ¬ Sat m ws := by
  rintro ⟨c, hc⟩
  have e1 : sm m (fun i => c i * sm ws.length (fun j => RW ws j i * lam j)) = sm m (fun i => sm ws.length (fun j => lam j * (RW ws j i * c i))) := sm_congr fun i _ => by
    rw [← sm_mul]
    exact sm_congr fun j _ => by grind
  have e2 : sm m (fun i => c i * sm ws.length (fun j => RW ws j i * lam j)) ≤ sm ws.length (fun j => BW ws j * lam j) := by
    rw [e1, sm_comm]
    refine sm_le _ _ _ fun j hj => ?_
    rw [sm_mul]
    have := Rat.mul_le_mul_of_nonneg_left (w_all hc hj) (h0 j hj)
    grind
  rw [sm_none m _ fun i hi => by rw [h1 i hi]; grind, h2] at e2
  grind
theorem point_g (n : Nat) (h : Lw m ws) (hm : 1 ≤ m ∧ m ≤ 3) (hl : ws.length ≤ 6) : ∃ d0, PtRes m ws d0 ∧ ∀ s, (Fx (n + 11) 43 [ld m ws] s).wp fun d s' => d = d0 ∧ Gr s s' := by
  have lo := h.lot (by omega) (by omega)
  have gl := h.gl (by omega) (by omega)
  have ck := fun s => chklot_q (n + 3) s (A := 10) (m := m) (ws := ws) (by omega) (by omega) h.okW (fun w hw => ⟨fun x hx => ((h w hw).2.1 x hx).2.1, bq_mono (by omega) (h w hw).2.2.2.1⟩) (le_bg (by decide))
  obtain ⟨d0, r0, q0⟩ := void_g (n + 1) lo gl
  rcases r0 with ⟨lam, l1, l2, l3, rfl⟩ | ⟨y, y1, y2, rfl⟩
  · refine ⟨.non, .inl ⟨rfl, void_not (fun j hj => (l1 j hj).1) l2 l3⟩, fun s => ?_⟩
    have k0 : ws.length ≠ 0 := fun z => by
      rw [z] at l3
      simp [sm] at l3
      grind
    have ne : rl ws.length lam ≠ [] := fun z => by
      have := congrArg List.length z
      rw [rl_len] at this
      exact k0 this
    rw [c43]
    simp [runB, m_point_of, ck]
    refine R.wp_mono (q0 s) fun d s1 hd => ?_
    obtain ⟨rfl, g⟩ := hd
    simp [ne]
    exact g
  · refine ⟨.tup (rl m y), .inr ⟨y, y1, all_w (g := fun x => x) y2, rfl⟩, fun s => ?_⟩
    rw [c43]
    simp [runB, m_point_of, ck]
    refine R.wp_mono (q0 s) fun d s1 hd => ?_
    obtain ⟨rfl, g⟩ := hd
    simp
    exact g
theorem PW_ok {m : Nat} (h : 1 ≤ m ∧ m ≤ 3) : PW m < 2 ^ 1900 ∧ (2 * (10 * PW m)) ^ 3 ≤ BG ∧ PW m ≤ BG := by
  have : m = 1 ∨ m = 2 ∨ m = 3 := by omega
  rcases this with h | h | h <;> rw [h] <;> exact ⟨by decide +kernel, le_bg (by decide +kernel), le_bg (by decide +kernel)⟩
theorem Sm.of {B : Nat} (h : Lw m ws) {p : List Q} (hm : m ≤ 3) (hp : ∀ y ∈ p, bq B y) (hl : p.length = m) (hB : 1 ≤ B) (hb : (2 * (10 * B)) ^ 3 ≤ BG) : Sm 10 B 3 ws p :=
  ⟨fun w hw => ⟨fun x hx => ((h w hw).2.1 x hx).2.1, bq_mono (by omega) (h w hw).2.2.2.1⟩, hp, by omega, hb, by omega, le_bg (by decide)⟩
theorem holds_is {w : W} (hw : wOk m w) {p : List Q} (hp : ∀ y ∈ p, gd y) (hl : p.length = m) : holdsW w p = decide (sm m (fun i => fR w.1 i * fR p i) ≤ vl w.2) := by
  unfold holdsW
  have g := dotQ_gd (fun x hx => (hw.2.1 x hx).1.1) fun y hy => (hp y hy).1
  rw [ple_vl g hw.2.2.1]
  have v := (vl_dotA w.1 p (0, 1) (by decide) (fun x hx => (hw.2.1 x hx).1.1) (fun y hy => (hp y hy).1) (by have := hw.1; omega)).1
  have e : vl (dotQ w.1 p) = sm p.length (fun j => fR w.1 j * fR p j) := by
    unfold dotQ
    rw [v, vl_0]
    grind
  rw [e, hl]
end
/-- one drawn row asked -/
theorem asked_f (n : Nat) {m : Nat} {ws : List W} (h : Lw m ws) (hm : 1 ≤ m ∧ m ≤ 3) (hl : ws.length ≤ 6) {p : List Q} (hp : nums p) (lp : p.length = m) (v : Bool) (hv : v = ws.all fun w => holdsW w p) (s : Sto) :
    Fx (n + 10) 53 [ld m ws, rd p] s = .ok (.bl v) s ∧ Fx (n + 10) 56 [ld m ws, rd p] s = .ok (.bl v) s := by
  have S := Sm.of (B := 10) h hm.2 (fun y hy => (hp y hy).2.1) lp (by omega) (le_bg (by decide))
  have q1 := liesin_q (n + 2) s S (m := m) (by omega) (by omega) h.okW (by omega) (fun x hx => (hp x hx).1) (le_bg (by decide))
  have q2 := llies_q (n + 6) s S m
  rw [hv]
  exact ⟨q1, q2⟩
/-- one lot asked -/
def BodyQ (u v0 : Nat) (m : Nat) (p : List Q) (l0 l1 : D) (k1 : Int) (f : Fl) (s' : Sto) : Prop := ∃ z2 z5 z6 z7, f = .nx [some (.ref u), some (.int m), z2, some (rd p), some l0, z5, z6, z7] ∧ Urn s' u k1
theorem one_f (n : Nat) (s : Sto) (u : Nat) (k0 : Int) (U : Urn s u k0) (hk : k0 ≤ 10 ^ 30) {m : Nat} {ws : List W} (h : Lw m ws) (hm : 1 ≤ m ∧ m ≤ 3) (hl : ws.length ≤ 6) {p : List Q} (hp : nums p) (lp : p.length = m) (l0 : D) (z5 z6 z7 : Option D) :
    ((mSeq (mAsg (gNm 5) (mCall (Fx (n + 11)) 43 [.at 0] (mCons (mVar 2) mNil)))
    (mSeq (mIfS (mTest (mOp2 (opEq true) (mOpN opRepr (mCons (mCallK (Fx (n + 11)) 43 [.at 0] mNil (mCons (mVar 2) mNil)) mNil)) (mOpN opRepr (mCons (mVar 5) mNil))))
    (mRet (mCst (.bl false)))
    mPass)
    (mSeq (mIfS (mTest (mCall (Fx (n + 11)) 47 [.at 0, .at 1] (mCons (mCall (Fx (n + 11)) 55 [.at 0] (mCons (mVar 2) mNil)) (mCons (mVar 1) mNil))))
    (mIfS (mTest (mOp1 (opIsN true) (mVar 5)))
    (mRet (mCst (.bl false)))
    mPass)
    (mIfS (mOrT (mNotT (mTest (mCall (Fx (n + 11)) 59 [.at 0, .at 1] (mCons (mVar 5) (mCons (mVar 1) mNil))))) (mNotT (mTest (mCall (Fx (n + 11)) 56 [.at 0, .at 1] (mCons (mVar 2) (mCons (mVar 5) mNil))))))
    (mRet (mCst (.bl false)))
    mPass))
    (mFor (gNm 6) (mIt (mOpN opTup (mCons (mVar 3) (mCons (mCall (Fx (n + 11)) 3 [.at 0, .at 1] (mCons (mVar 0) (mCons (mVar 1) mNil))) (mCons (mCall (Fx (n + 11)) 3 [.at 0, .at 1] (mCons (mVar 0) (mCons (mVar 1) mNil))) mNil)))))
    (mSeq (mAsg (gNm 7) (mOpN opRepr (mCons (mCall (Fx (n + 11)) 56 [.at 0, .at 1] (mCons (mVar 2) (mCons (mVar 6) mNil))) mNil)))
    (mIfS (mOrT (mTest (mOp2 (opEq true) (mOpN opRepr (mCons (mCall (Fx (n + 11)) 53 [.at 0, .at 1] (mCons (mVar 2) (mCons (mVar 6) mNil))) mNil)) (mVar 7))) (mTest (mOp2 (opEq true) (mOpN opRepr (mCons (mCallK (Fx (n + 11)) 53 [.at 1, .at 0] mNil (mCons (mVar 6) (mCons (mVar 2) mNil))) mNil)) (mVar 7))))
    (mRet (mCst (.bl false)))
    mPass)))))) [some (.ref u), some (.int m), some (ld m ws), some (rd p), some l0, z5, z6, z7] s).wp fun f s' => ∃ z5 z6 z7, f = .nx [some (.ref u), some (.int m), some (ld m ws), some (rd p), some l0, z5, z6, z7] ∧ Urn s' u (k0 + 90) := by
  have lo := h.lot (by omega) (by omega)
  obtain ⟨PWa, PWb, PWc⟩ := PW_ok hm
  obtain ⟨d0, r0, q0⟩ := point_g n h hm hl
  have ushow : ∃ x, ∀ s, opRepr [d0] s = .ok (.str x) s := by
    rcases r0 with ⟨rfl, -⟩ | ⟨y, y1, y2, rfl⟩
    · exact non_repr
    · exact shw_repr (shw_rlB (by omega) y1 PWa) (by omega) (by omega)
  obtain ⟨tx, ht⟩ := ushow
  refine wp_seq (R.wp_mono (Q := fun f s1 => f = .nx [some (.ref u), some (.int m), some (ld m ws), some (rd p), some l0, some d0, z6, z7] ∧ Urn s1 u k0) ?_ ?_)
  · simp
    refine R.wp_mono (q0 s) fun d s1 hd => ?_
    obtain ⟨rfl, g⟩ := hd
    exact ⟨rfl, g.urn U⟩
  rintro _ s1 ⟨rfl, U1⟩
  refine wp_seq (R.wp_mono (Q := fun f s2 => f = .nx [some (.ref u), some (.int m), some (ld m ws), some (rd p), some l0, some d0, z6, z7] ∧ Urn s2 u k0) ?_ ?_)
  · simp
    refine R.wp_mono (q0 s1) fun d s2 hd => ?_
    obtain ⟨rfl, g⟩ := hd
    simp [ht]
    exact g.urn U1
  rintro _ s2 ⟨rfl, U2⟩
  refine wp_seq (R.wp_mono (Q := fun f s3 => f = .nx [some (.ref u), some (.int m), some (ld m ws), some (rd p), some l0, some d0, z6, z7] ∧ s3 = s2) ?_ ?_)
  · have wl := lotw_f (n + 8) s2 lo
    obtain ⟨v, vq, vi⟩ := lvoid_f (n + 6) s2 lo hm.2 (by omega)
    simp only [x_ifS, x_test, x_call, x_cons, x_nil, x_varS, x_var0, R.bd_ok, List.map_cons, List.map_nil, g_at0, g_atS, wl, vq]
    cases v with
    | true =>
      have hv := vi.mp rfl
      rcases r0 with ⟨rfl, -⟩ | ⟨y, y1, y2, rfl⟩
      · simp [truD, isN]
      · exact (hv ⟨y, y2⟩).elim
    | false =>
      have hv : Sat m ws := Classical.byContradiction fun c => by
        have := vi.mpr c
        cases this
      rcases r0 with ⟨rfl, hn⟩ | ⟨y, y1, y2, rfl⟩
      · exact (hn hv).elim
      · have yq : ∀ x ∈ lq m y, gd x ∧ bq (PW m) x := fun x hx => ⟨lq_gd x hx, lq_bq y1 x hx⟩
        have ir := lrow_f (n + 8) s2 (rd (lq m y)) (pl_rd (A := PW m) (by simp; omega) (fun x hx => (yq x hx).2) PWc) m
        rw [isRow_rd (by simp) fun x hx => (yq x hx).1] at ir
        have S := Sm.of h hm.2 (fun x hx => (yq x hx).2) (by simp) (show 1 ≤ PW m from Nat.mul_pos (by omega) (Nat.pow_pos (Nat.lt_of_lt_of_le (by omega) (gi_ge (n := 57600) (by omega) (m + 1))))) PWb
        have il := llies_q (n + 7) s2 S m
        have al : (ws.all fun w => holdsW w (lq m y)) = true := List.all_eq_true.mpr fun w hw => by
          rw [holds_is (h w hw) (fun x hx => (yq x hx).1) (by simp)]
          refine decide_eq_true ?_
          have e : sm m (fun i => fR w.1 i * fR (lq m y) i) = sm m (fun i => fR w.1 i * y i) := sm_congr fun i hi => by rw [lq_fR hi]
          rw [e]
          exact y2 w hw
        rw [al] at il
        rw [lq_rd] at ir il
        simp [truD, ir, il]
  rintro _ s3 ⟨rfl, rfl⟩
  -- the rows
  dsimp only
  rw [x_for]
  refine R.wp_bd.mpr (R.wp_mono (Q := fun it s4 => ∃ p1 p2 : List Q, it = ([rd p, rd p1, rd p2], none) ∧ nums p1 ∧ nums p2 ∧ p1.length = m ∧ p2.length = m ∧ Urn s4 u (k0 + 90)) ?_ ?_)
  · simp
    refine R.wp_mono (lrowgen_f (n + 8) s3 u k0 m U2 (by omega) (by omega) (by omega)) fun d s4 h => ?_
    obtain ⟨ds, rfl, h1, h2, U4, K4⟩ := h
    obtain ⟨p1, rfl, hp1⟩ := row_q h2
    refine R.wp_mono (lrowgen_f (n + 8) s4 u _ m U4 (by omega) (by omega) (by omega)) fun d s5 h => ?_
    obtain ⟨ds, rfl, h3, h4, U5, K5⟩ := h
    obtain ⟨p2, rfl, hp2⟩ := row_q h4
    simp [itemsD]
    simp at h1 h3
    exact ⟨p1, p2, ⟨rfl, rfl⟩, hp1, hp2, by omega, by omega, U5.mono (by omega)⟩
  rintro _ s4 ⟨p1, p2, rfl, hp1, hp2, lp1, lp2, U4⟩
  refine for_wp (fun l env st => (∀ d ∈ l, ∃ r : List Q, d = rd r ∧ nums r ∧ r.length = m) ∧ (∃ z6 z7, env = [some (.ref u), some (.int m), some (ld m ws), some (rd p), some l0, some d0, z6, z7]) ∧ Urn st u (k0 + 90)) ?_ ?_ _ _ _ ⟨?_, ⟨_, _, rfl⟩, U4⟩
  · rintro d l env st ⟨hd, ⟨z6, z7, rfl⟩, U'⟩
    obtain ⟨r, rfl, hr, lr⟩ := hd d (.head _)
    obtain ⟨tv, hv⟩ := bl_repr (ws.all fun w => holdsW w r)
    have q := asked_f (n + 1) h hm hl hr lr _ rfl st
    rw [x_gNm, wp_ok']
    simp [q.1, q.2, hv]
    exact ⟨fun a ha => hd a (.tail _ ha), U'⟩
  · rintro env st ⟨-, ⟨z6, z7, rfl⟩, U'⟩
    exact ⟨_, _, _, rfl, U'⟩
  · intro d hd
    simp at hd
    rcases hd with rfl | rfl | rfl
    · exact ⟨p, rfl, hp, lp⟩
    · exact ⟨p1, rfl, hp1, lp1⟩
    · exact ⟨p2, rfl, hp2, lp2⟩
theorem right_f (n : Nat) (s : Sto) (u : Nat) (U : Urn s u 0) : (Fx (n + 12) 60 [.ref u] s).wp fun d _ => d = .bl true := by
  rw [c60]
  have hu := U.lt
  unfold runB m_law_right
  rw [if_pos (show [D.ref u].length = 1 from rfl), wp_bd']
  refine wp_seq (R.wp_mono (Q := fun f s1 => ∃ m : Nat, f = .nx [some (.ref u), some (.int m), none, none, none, none, none, none] ∧ 1 ≤ m ∧ m ≤ 3 ∧ Urn s1 u 1) ?_ ?_)
  · simp
    refine R.wp_mono (draw_f (n + 10) s u _ _ U (by omega) (by omega) (by omega)) fun d s1 h => ?_
    obtain ⟨x, rfl, x0, x1, U1, -⟩ := h
    simp
    exact ⟨(1 + x).toNat, by omega, by omega, by omega, U1.mono (by omega)⟩
  rintro _ s1 ⟨m, rfl, m0, m1, U1⟩
  refine wp_seq (R.wp_mono (Q := fun f s2 => ∃ (p : List Q) (ws : List W), f = .nx [some (.ref u), some (.int m), none, some (rd p), some (ld m ws), none, none, none] ∧ p.length = m ∧ nums p ∧ Lw m ws ∧ ws.length ≤ 6 ∧ HH ws p ∧ Urn s2 u 1200) ?_ ?_)
  · simp
    refine R.wp_mono (inside_f (n + 6) s1 u _ U1 (by omega) ⟨m0, m1⟩ 6 (by omega)) fun d s2 h => ?_
    obtain ⟨p, ws, rfl, h1, h2, h3, h4, h5, U2, -⟩ := h
    simp
    exact ⟨p, ws, ⟨rfl, rfl⟩, h1, h2, h3, by omega, h5, U2.mono (by omega)⟩
  rintro _ s2 ⟨p, ws, rfl, lp, hp, hw, hl, hh, U2⟩
  refine wp_seq (R.wp_mono (Q := fun f s3 => ∃ z2 z5 z6 z7, f = .nx [some (.ref u), some (.int m), z2, some (rd p), some (ld m ws), z5, z6, z7]) ?_ ?_)
  · rw [x_for]
    refine R.wp_bd.mpr (R.wp_mono (Q := fun it s4 => ∃ ws2 : List W, it = ([ld m ws, ld m ws2], none) ∧ Lw m ws2 ∧ ws2.length ≤ 6 ∧ Urn s4 u 2300) ?_ ?_)
    · simp
      refine R.wp_mono (lotgen_f (n + 7) s2 u _ m U2 (by omega) (by omega) (by omega) 6 (by omega)) fun d s3 h => ?_
      obtain ⟨wl, rfl, w1, w2, U3, -⟩ := h
      obtain ⟨ws2, rfl, hw2⟩ := lot_q w2
      simp at w1
      exact ⟨ws2, rfl, hw2, by omega, U3.mono (by omega)⟩
    rintro _ s3 ⟨ws2, rfl, hw2, hl2, U3⟩
    refine for_wp (fun l env st => (∀ d ∈ l, ∃ x : List W, d = ld m x ∧ Lw m x ∧ x.length ≤ 6) ∧ (∃ z2 z5 z6 z7, env = [some (.ref u), some (.int m), z2, some (rd p), some (ld m ws), z5, z6, z7]) ∧ Urn st u (2600 - 100 * l.length)) ?_ ?_ _ _ _ ⟨?_, ⟨_, _, _, _, rfl⟩, U3.mono (by simp)⟩
    · rintro d l env st ⟨hd, ⟨z2, z5, z6, z7, rfl⟩, U'⟩
      obtain ⟨x, rfl, hx, lx⟩ := hd d (.head _)
      rw [x_gNm, wp_ok']
      refine R.wp_mono (one_f n st u _ U' (by simp; omega) hx ⟨m0, m1⟩ lx hp lp (ld m ws) z5 z6 z7) fun f s4 h => ?_
      obtain ⟨y5, y6, y7, rfl, U4⟩ := h
      exact ⟨fun a ha => hd a (.tail _ ha), ⟨_, _, _, _, rfl⟩, U4.mono (by simp; omega)⟩
    · rintro env st ⟨-, ⟨z2, z5, z6, z7, rfl⟩, U'⟩
      exact ⟨_, _, _, _, rfl⟩
    · intro d hd
      simp at hd
      rcases hd with rfl | rfl
      · exact ⟨ws, rfl, hw, hl⟩
      · exact ⟨ws2, rfl, hw2, hl2⟩
  rintro _ s3 ⟨z2, z5, z6, z7, rfl⟩
  have q := (asked_f (n + 1) hw ⟨m0, m1⟩ hl hp lp true (List.all_eq_true.mpr hh).symm s3).1
  simp [q]
abbrev most : Nat := 63
abbrev lv : Nat := 22
theorem holds (ns : List Int) (h : ns.length ≤ most) : ∃ s, Fx lv 62 [.ro (ns.map .int)] [] = .ok (.bl true) s := by
  refine wp_true ?_
  show (Fx (21 + 1) 62 _ _).wp _
  rw [c62]
  exact lawAll_ok (F := Fx 21) (idR := 60) (idU := 61) (lo := 1) (hi := 3) ns (by decide) (by decide) (fun s t ht => well_f 20 ns s t ht) fun s u U => right_f 9 s u U
end K03
set_option maxHeartbeats 0
namespace K03
open PySem PySem.Spec L2 Rf
open PyProof.Rows hiding St
def fn : List He.DefD := [p0.d, p1.d, p2.d, p3.d, p4.d, p5.d, p6.d, p7.d, p8.d, p9.d, p10.d, p11.d, p12.d, p13.d, p14.d, p15.d, p16.d, p17.d, p18.d, p19.d, p20.d, p21.d, p22.d, p23.d, p24.d, p25.d, p26.d, p27.d, p28.d, p29.d, p30.d, p31.d, p32.d, p33.d, p34.d, p35.d, p36.d, p37.d, p38.d, p39.d, p40.d, p41.d, p42.d, p43.d, p44.d, p45.d, p46.d, p47.d, p48.d, p49.d, p50.d, p51.d, p52.d, p53.d, p54.d, p55.d, p56.d, p57.d, p58.d, p59.d, p60.d, p61.d, p62.d]
def fa : List He.Fa := [.glo "_law_frac", .glo "_law_draw", .glo "_law_number", .glo "_law_row", .glo "_law_of", .glo "_law_lot", .glo "_law_plus", .glo "_law_times", .glo "_law_dot", .glo "_law_up_to", .glo "_law_inside", .glo "is_whole", .glo "is_between", .glo "are_wholes", .glo "divisor_of", .glo "is_ratio", .glo "is_row_by", .glo "is_wish", .glo "is_lot_by", .glo "check_lot", .glo "ratio", .glo "times", .glo "noughts", .glo "unit", .glo "first_board", .glo "minus", .glo "gaps", .glo "scaled", .glo "over", .glo "turned_about", .glo "is_below", .glo "leaving", .glo "descended", .glo "driven_out", .glo "weights_by", .glo "prices", .glo "least_by", .glo "opposite", .glo "turned", .glo "void_by", .glo "rows_in", .glo "bounds_in", .glo "void_weights", .glo "point_of", .glo "_law_common", .glo "_law_lowered", .glo "_law_joined_wish", .glo "_law_is_void", .glo "check_row", .glo "is_up_to", .glo "plus", .glo "dot", .glo "lies_by", .glo "lies_in", .glo "_law_whole_wish", .glo "_law_lot_wishes", .glo "_law_lies", .glo "_law_is_whole", .glo "_law_is_frac", .glo "_law_is_row", .glo "_law_right", .glo "_law_well", .glo "law", .free "len", .free "isinstance", .free "all", .free "any", .free "abs", .free "max", .free "min", .free "divmod", .free "repr", .free "sum", .free "sorted", .free "int", .free "bool", .free "str", .free "tuple", .free "list", .free "dict", .free "set", .free "range", .free "zip", .free "enumerate"]
abbrev RR : PySem.W.OpenRow := PySem.W.OpenLaw.row PySem.Challenge.rw_safehelms_k03_whole_points_of_lots
abbrev hk : PySem.W.Hook := hookX 4 fa fn C.G
def ob (s : PySem.W.SharedT) : ObX := obsX 4 fa fn C.G (HandSHeadRun.getT s)
theorem ob_eq (s : PySem.W.SharedT) : ob s = hk.obs s.abs := obsX_eq (HandSHeadRun.getT_eq s)
def loose0 : List PySem.Str := ["HelmError", "InvalidLot", "InvalidRow", "is_whole", "is_between", "are_wholes", "divisor_of", "ZERO", "ONE", "LESS", "is_ratio", "ratio", "plus", "minus", "times", "over", "opposite", "is_up_to", "is_below", "dot"]
def loose1 : List PySem.Str := ["noughts", "unit", "scaled", "turned", "is_row_by", "check_row", "first_board", "gaps", "leaving", "turned_about", "descended", "prices", "driven_out", "weights_by", "least_by", "void_by", "MOST_SIZE", "MOST_WISHES", "is_wish", "is_lot_by"]
def loose2 : List PySem.Str := ["rows_in", "bounds_in", "lies_by", "void_weights", "check_lot", "lies_in", "point_of", "_law_well", "_law_draw", "_law_of", "_law_frac", "_law_plus", "_law_times", "_law_up_to", "_law_dot", "_law_number", "_law_row", "_law_is_whole", "_law_is_frac", "_law_is_row"]
def loose3 : List PySem.Str := ["_law_lies", "_law_lot", "_law_inside", "_law_whole_wish", "_law_common", "_law_lowered", "_law_joined_wish", "_law_is_void", "_law_lot_wishes", "_law_right"]
def loose : List PySem.Str := loose0 ++ loose1 ++ loose2 ++ loose3
theorem comb {α β γ δ ε : Type} {o : Option α} {f : α → β} {g : α → γ} {h : α → δ} {k : α → ε} {a : β} {b : γ} {c : δ} {d : ε} (h1 : o.map f = some a) (h2 : o.map g = some b) (h3 : o.map h = some c) (h4 : o.map k = some d) {τ : Type} (t : τ) : o.map (fun x => (f x, g x, (h x, k x, t))) = some (a, b, (c, d, t)) := by
  cases o with
  | none => cases h1
  | some x =>
    cases h1
    cases h2
    cases h3
    cases h4
    rfl
noncomputable abbrev oR (w : World) := HandSHeadRun.wholeF (fun p => HandSHeadRun.stepQ (HandSHeadRun.denQ HandSHeadRun.tabQ) p w) HandSHeadRun.fenceQ 6000 RR.prog
theorem run1 (w : World) : (oR w).map (fun x => HandSHeadRun.looksF RR.prog x.1.heap x.2.abs) = some true := by kernel_rfl
theorem run2 (w : World) : (oR w).map (fun x => HandSHeadRun.seenQ (PySem.W.view RR.prog [0, 79]) loose (PySem.importedModules RR.prog.main.body) (fun s => PySem.W.xlAt (PySem.W.view RR.prog [0, 79]) [] s && PySem.W.recOk RR.toRowW.records s) x.2.abs) = some (PySem.W.openGood (PySem.W.view RR.prog [0, 79]) loose) := by kernel_rfl
theorem run3 (w : World) : (oR w).map (fun x => He.obsD fa fn (He.frG (HandSHeadRun.getT x.2) (He.asD (HandSHeadRun.getT x.2) 4))) = some (He.valD fn) := by kernel_rfl
theorem run4 (w : World) : (oR w).map (fun x => exB C.G (He.frG (HandSHeadRun.getT x.2) (He.asD (HandSHeadRun.getT x.2) 4))) = some true := by kernel_rfl
theorem run (w : World) : HandSHeadRun.RunEqI RR (PySem.W.view RR.prog [0, 79]) hk ob 6000 loose w := by
  have h := comb (run1 w) (run2 w) (run3 w) (run4 w) ([] : List (Option (List (Option (Str × Int)))))
  have e : HandSHeadRun.RunEqI RR (PySem.W.view RR.prog [0, 79]) hk ob 6000 loose w = ((oR w).map (fun x => (HandSHeadRun.looksF RR.prog x.1.heap x.2.abs, HandSHeadRun.seenQ (PySem.W.view RR.prog [0, 79]) loose (PySem.importedModules RR.prog.main.body) (fun s => PySem.W.xlAt (PySem.W.view RR.prog [0, 79]) [] s && PySem.W.recOk RR.toRowW.records s) x.2.abs, (He.obsD fa fn (He.frG (HandSHeadRun.getT x.2) (He.asD (HandSHeadRun.getT x.2) 4)), exB C.G (He.frG (HandSHeadRun.getT x.2) (He.asD (HandSHeadRun.getT x.2) 4)), ([] : List (Option (List (Option (Str × Int)))))))) = some (true, PySem.W.openGood (PySem.W.view RR.prog [0, 79]) loose, (He.valD fn, true, ([] : List (Option (List (Option (Str × Int)))))))) := by kernel_rfl
  exact e.mpr h
theorem sc0 : FnScope p0.N p0.ps p0.d.scope := ⟨by kernel_rfl, by kernel_rfl, by kernel_rfl, by decide +kernel, by decide +kernel, by decide +kernel, by decide +kernel⟩
theorem sc1 : FnScope p1.N p1.ps p1.d.scope := ⟨by kernel_rfl, by kernel_rfl, by kernel_rfl, by decide +kernel, by decide +kernel, by decide +kernel, by decide +kernel⟩
theorem sc2 : FnScope p2.N p2.ps p2.d.scope := ⟨by kernel_rfl, by kernel_rfl, by kernel_rfl, by decide +kernel, by decide +kernel, by decide +kernel, by decide +kernel⟩
theorem sc3 : FnScope p3.N p3.ps p3.d.scope := ⟨by kernel_rfl, by kernel_rfl, by kernel_rfl, by decide +kernel, by decide +kernel, by decide +kernel, by decide +kernel⟩
theorem sc4 : FnScope p4.N p4.ps p4.d.scope := ⟨by kernel_rfl, by kernel_rfl, by kernel_rfl, by decide +kernel, by decide +kernel, by decide +kernel, by decide +kernel⟩
theorem sc5 : FnScope p5.N p5.ps p5.d.scope := ⟨by kernel_rfl, by kernel_rfl, by kernel_rfl, by decide +kernel, by decide +kernel, by decide +kernel, by decide +kernel⟩
theorem sc6 : FnScope p6.N p6.ps p6.d.scope := ⟨by kernel_rfl, by kernel_rfl, by kernel_rfl, by decide +kernel, by decide +kernel, by decide +kernel, by decide +kernel⟩
theorem sc7 : FnScope p7.N p7.ps p7.d.scope := ⟨by kernel_rfl, by kernel_rfl, by kernel_rfl, by decide +kernel, by decide +kernel, by decide +kernel, by decide +kernel⟩
theorem sc8 : FnScope p8.N p8.ps p8.d.scope := ⟨by kernel_rfl, by kernel_rfl, by kernel_rfl, by decide +kernel, by decide +kernel, by decide +kernel, by decide +kernel⟩
theorem sc9 : FnScope p9.N p9.ps p9.d.scope := ⟨by kernel_rfl, by kernel_rfl, by kernel_rfl, by decide +kernel, by decide +kernel, by decide +kernel, by decide +kernel⟩
theorem sc10 : FnScope p10.N p10.ps p10.d.scope := ⟨by kernel_rfl, by kernel_rfl, by kernel_rfl, by decide +kernel, by decide +kernel, by decide +kernel, by decide +kernel⟩
theorem sc11 : FnScope p11.N p11.ps p11.d.scope := ⟨by kernel_rfl, by kernel_rfl, by kernel_rfl, by decide +kernel, by decide +kernel, by decide +kernel, by decide +kernel⟩
theorem sc12 : FnScope p12.N p12.ps p12.d.scope := ⟨by kernel_rfl, by kernel_rfl, by kernel_rfl, by decide +kernel, by decide +kernel, by decide +kernel, by decide +kernel⟩
theorem sc13 : FnScope p13.N p13.ps p13.d.scope := ⟨by kernel_rfl, by kernel_rfl, by kernel_rfl, by decide +kernel, by decide +kernel, by decide +kernel, by decide +kernel⟩
theorem sc14 : FnScope p14.N p14.ps p14.d.scope := ⟨by kernel_rfl, by kernel_rfl, by kernel_rfl, by decide +kernel, by decide +kernel, by decide +kernel, by decide +kernel⟩
theorem sc15 : FnScope p15.N p15.ps p15.d.scope := ⟨by kernel_rfl, by kernel_rfl, by kernel_rfl, by decide +kernel, by decide +kernel, by decide +kernel, by decide +kernel⟩
theorem sc16 : FnScope p16.N p16.ps p16.d.scope := ⟨by kernel_rfl, by kernel_rfl, by kernel_rfl, by decide +kernel, by decide +kernel, by decide +kernel, by decide +kernel⟩
theorem sc17 : FnScope p17.N p17.ps p17.d.scope := ⟨by kernel_rfl, by kernel_rfl, by kernel_rfl, by decide +kernel, by decide +kernel, by decide +kernel, by decide +kernel⟩
theorem sc18 : FnScope p18.N p18.ps p18.d.scope := ⟨by kernel_rfl, by kernel_rfl, by kernel_rfl, by decide +kernel, by decide +kernel, by decide +kernel, by decide +kernel⟩
theorem sc19 : FnScope p19.N p19.ps p19.d.scope := ⟨by kernel_rfl, by kernel_rfl, by kernel_rfl, by decide +kernel, by decide +kernel, by decide +kernel, by decide +kernel⟩
theorem sc20 : FnScope p20.N p20.ps p20.d.scope := ⟨by kernel_rfl, by kernel_rfl, by kernel_rfl, by decide +kernel, by decide +kernel, by decide +kernel, by decide +kernel⟩
theorem sc21 : FnScope p21.N p21.ps p21.d.scope := ⟨by kernel_rfl, by kernel_rfl, by kernel_rfl, by decide +kernel, by decide +kernel, by decide +kernel, by decide +kernel⟩
theorem sc22 : FnScope p22.N p22.ps p22.d.scope := ⟨by kernel_rfl, by kernel_rfl, by kernel_rfl, by decide +kernel, by decide +kernel, by decide +kernel, by decide +kernel⟩
theorem sc23 : FnScope p23.N p23.ps p23.d.scope := ⟨by kernel_rfl, by kernel_rfl, by kernel_rfl, by decide +kernel, by decide +kernel, by decide +kernel, by decide +kernel⟩
theorem sc24 : FnScope p24.N p24.ps p24.d.scope := ⟨by kernel_rfl, by kernel_rfl, by kernel_rfl, by decide +kernel, by decide +kernel, by decide +kernel, by decide +kernel⟩
theorem sc25 : FnScope p25.N p25.ps p25.d.scope := ⟨by kernel_rfl, by kernel_rfl, by kernel_rfl, by decide +kernel, by decide +kernel, by decide +kernel, by decide +kernel⟩
theorem sc26 : FnScope p26.N p26.ps p26.d.scope := ⟨by kernel_rfl, by kernel_rfl, by kernel_rfl, by decide +kernel, by decide +kernel, by decide +kernel, by decide +kernel⟩
theorem sc27 : FnScope p27.N p27.ps p27.d.scope := ⟨by kernel_rfl, by kernel_rfl, by kernel_rfl, by decide +kernel, by decide +kernel, by decide +kernel, by decide +kernel⟩
theorem sc28 : FnScope p28.N p28.ps p28.d.scope := ⟨by kernel_rfl, by kernel_rfl, by kernel_rfl, by decide +kernel, by decide +kernel, by decide +kernel, by decide +kernel⟩
theorem sc29 : FnScope p29.N p29.ps p29.d.scope := ⟨by kernel_rfl, by kernel_rfl, by kernel_rfl, by decide +kernel, by decide +kernel, by decide +kernel, by decide +kernel⟩
theorem sc30 : FnScope p30.N p30.ps p30.d.scope := ⟨by kernel_rfl, by kernel_rfl, by kernel_rfl, by decide +kernel, by decide +kernel, by decide +kernel, by decide +kernel⟩
theorem sc31 : FnScope p31.N p31.ps p31.d.scope := ⟨by kernel_rfl, by kernel_rfl, by kernel_rfl, by decide +kernel, by decide +kernel, by decide +kernel, by decide +kernel⟩
theorem sc32 : FnScope p32.N p32.ps p32.d.scope := ⟨by kernel_rfl, by kernel_rfl, by kernel_rfl, by decide +kernel, by decide +kernel, by decide +kernel, by decide +kernel⟩
theorem sc33 : FnScope p33.N p33.ps p33.d.scope := ⟨by kernel_rfl, by kernel_rfl, by kernel_rfl, by decide +kernel, by decide +kernel, by decide +kernel, by decide +kernel⟩
theorem sc34 : FnScope p34.N p34.ps p34.d.scope := ⟨by kernel_rfl, by kernel_rfl, by kernel_rfl, by decide +kernel, by decide +kernel, by decide +kernel, by decide +kernel⟩
theorem sc35 : FnScope p35.N p35.ps p35.d.scope := ⟨by kernel_rfl, by kernel_rfl, by kernel_rfl, by decide +kernel, by decide +kernel, by decide +kernel, by decide +kernel⟩
theorem sc36 : FnScope p36.N p36.ps p36.d.scope := ⟨by kernel_rfl, by kernel_rfl, by kernel_rfl, by decide +kernel, by decide +kernel, by decide +kernel, by decide +kernel⟩
theorem sc37 : FnScope p37.N p37.ps p37.d.scope := ⟨by kernel_rfl, by kernel_rfl, by kernel_rfl, by decide +kernel, by decide +kernel, by decide +kernel, by decide +kernel⟩
theorem sc38 : FnScope p38.N p38.ps p38.d.scope := ⟨by kernel_rfl, by kernel_rfl, by kernel_rfl, by decide +kernel, by decide +kernel, by decide +kernel, by decide +kernel⟩
theorem sc39 : FnScope p39.N p39.ps p39.d.scope := ⟨by kernel_rfl, by kernel_rfl, by kernel_rfl, by decide +kernel, by decide +kernel, by decide +kernel, by decide +kernel⟩
theorem sc40 : FnScope p40.N p40.ps p40.d.scope := ⟨by kernel_rfl, by kernel_rfl, by kernel_rfl, by decide +kernel, by decide +kernel, by decide +kernel, by decide +kernel⟩
theorem sc41 : FnScope p41.N p41.ps p41.d.scope := ⟨by kernel_rfl, by kernel_rfl, by kernel_rfl, by decide +kernel, by decide +kernel, by decide +kernel, by decide +kernel⟩
theorem sc42 : FnScope p42.N p42.ps p42.d.scope := ⟨by kernel_rfl, by kernel_rfl, by kernel_rfl, by decide +kernel, by decide +kernel, by decide +kernel, by decide +kernel⟩
theorem sc43 : FnScope p43.N p43.ps p43.d.scope := ⟨by kernel_rfl, by kernel_rfl, by kernel_rfl, by decide +kernel, by decide +kernel, by decide +kernel, by decide +kernel⟩
theorem sc44 : FnScope p44.N p44.ps p44.d.scope := ⟨by kernel_rfl, by kernel_rfl, by kernel_rfl, by decide +kernel, by decide +kernel, by decide +kernel, by decide +kernel⟩
theorem sc45 : FnScope p45.N p45.ps p45.d.scope := ⟨by kernel_rfl, by kernel_rfl, by kernel_rfl, by decide +kernel, by decide +kernel, by decide +kernel, by decide +kernel⟩
theorem sc46 : FnScope p46.N p46.ps p46.d.scope := ⟨by kernel_rfl, by kernel_rfl, by kernel_rfl, by decide +kernel, by decide +kernel, by decide +kernel, by decide +kernel⟩
theorem sc47 : FnScope p47.N p47.ps p47.d.scope := ⟨by kernel_rfl, by kernel_rfl, by kernel_rfl, by decide +kernel, by decide +kernel, by decide +kernel, by decide +kernel⟩
theorem sc48 : FnScope p48.N p48.ps p48.d.scope := ⟨by kernel_rfl, by kernel_rfl, by kernel_rfl, by decide +kernel, by decide +kernel, by decide +kernel, by decide +kernel⟩
theorem sc49 : FnScope p49.N p49.ps p49.d.scope := ⟨by kernel_rfl, by kernel_rfl, by kernel_rfl, by decide +kernel, by decide +kernel, by decide +kernel, by decide +kernel⟩
theorem sc50 : FnScope p50.N p50.ps p50.d.scope := ⟨by kernel_rfl, by kernel_rfl, by kernel_rfl, by decide +kernel, by decide +kernel, by decide +kernel, by decide +kernel⟩
theorem sc51 : FnScope p51.N p51.ps p51.d.scope := ⟨by kernel_rfl, by kernel_rfl, by kernel_rfl, by decide +kernel, by decide +kernel, by decide +kernel, by decide +kernel⟩
theorem sc52 : FnScope p52.N p52.ps p52.d.scope := ⟨by kernel_rfl, by kernel_rfl, by kernel_rfl, by decide +kernel, by decide +kernel, by decide +kernel, by decide +kernel⟩
theorem sc53 : FnScope p53.N p53.ps p53.d.scope := ⟨by kernel_rfl, by kernel_rfl, by kernel_rfl, by decide +kernel, by decide +kernel, by decide +kernel, by decide +kernel⟩
theorem sc54 : FnScope p54.N p54.ps p54.d.scope := ⟨by kernel_rfl, by kernel_rfl, by kernel_rfl, by decide +kernel, by decide +kernel, by decide +kernel, by decide +kernel⟩
theorem sc55 : FnScope p55.N p55.ps p55.d.scope := ⟨by kernel_rfl, by kernel_rfl, by kernel_rfl, by decide +kernel, by decide +kernel, by decide +kernel, by decide +kernel⟩
theorem sc56 : FnScope p56.N p56.ps p56.d.scope := ⟨by kernel_rfl, by kernel_rfl, by kernel_rfl, by decide +kernel, by decide +kernel, by decide +kernel, by decide +kernel⟩
theorem sc57 : FnScope p57.N p57.ps p57.d.scope := ⟨by kernel_rfl, by kernel_rfl, by kernel_rfl, by decide +kernel, by decide +kernel, by decide +kernel, by decide +kernel⟩
theorem sc58 : FnScope p58.N p58.ps p58.d.scope := ⟨by kernel_rfl, by kernel_rfl, by kernel_rfl, by decide +kernel, by decide +kernel, by decide +kernel, by decide +kernel⟩
theorem sc59 : FnScope p59.N p59.ps p59.d.scope := ⟨by kernel_rfl, by kernel_rfl, by kernel_rfl, by decide +kernel, by decide +kernel, by decide +kernel, by decide +kernel⟩
theorem sc60 : FnScope p60.N p60.ps p60.d.scope := ⟨by kernel_rfl, by kernel_rfl, by kernel_rfl, by decide +kernel, by decide +kernel, by decide +kernel, by decide +kernel⟩
theorem sc61 : FnScope p61.N p61.ps p61.d.scope := ⟨by kernel_rfl, by kernel_rfl, by kernel_rfl, by decide +kernel, by decide +kernel, by decide +kernel, by decide +kernel⟩
theorem sc62 : FnScope p62.N p62.ps p62.d.scope := ⟨by kernel_rfl, by kernel_rfl, by kernel_rfl, by decide +kernel, by decide +kernel, by decide +kernel, by decide +kernel⟩
theorem q0 : BindQ p1 f0 := bindQ0 rfl fun kV doc pm an cdv ct us ws h1 h2 => match us, ws, h1, h2 with
  | [u0, u1], [], _, _ => ⟨[u0, u1], by kernel_rfl, .cons rfl (.cons rfl .nil)⟩
theorem q1 : BindQ p0 f1 := bindQ0 rfl fun kV doc pm an cdv ct us ws h1 h2 => match us, ws, h1, h2 with
  | [u0, u1], [], _, _ => ⟨[u0, u1], by kernel_rfl, .cons rfl (.cons rfl .nil)⟩
theorem q2 : BindQ p2 f2 := bindQ0 rfl fun kV doc pm an cdv ct us ws h1 h2 => match us, ws, h1, h2 with
  | [u0], [], _, _ => ⟨[u0], by kernel_rfl, .cons rfl .nil⟩
theorem q3 : BindQ p3 f3 := bindQ0 rfl fun kV doc pm an cdv ct us ws h1 h2 => match us, ws, h1, h2 with
  | [u0, u1], [], _, _ => ⟨[u0, u1], by kernel_rfl, .cons rfl (.cons rfl .nil)⟩
theorem q4 : BindQ p4 f4 := bindQ0 rfl fun kV doc pm an cdv ct us ws h1 h2 => match us, ws, h1, h2 with
  | [u0, u1], [], _, _ => ⟨[u0, u1], by kernel_rfl, .cons rfl (.cons rfl .nil)⟩
theorem q5 : BindQ p6 f5 := bindQ0 rfl fun kV doc pm an cdv ct us ws h1 h2 => match us, ws, h1, h2 with
  | [u0, u1], [], _, _ => ⟨[u0, u1], by kernel_rfl, .cons rfl (.cons rfl .nil)⟩
theorem q6 : BindQ p7 f6 := bindQ0 rfl fun kV doc pm an cdv ct us ws h1 h2 => match us, ws, h1, h2 with
  | [u0, u1], [], _, _ => ⟨[u0, u1], by kernel_rfl, .cons rfl (.cons rfl .nil)⟩
theorem q7 : BindQ p5 f7 := bindQ0 rfl fun kV doc pm an cdv ct us ws h1 h2 => match us, ws, h1, h2 with
  | [u0, u1, u2], [], _, _ => ⟨[u0, u1, u2], by kernel_rfl, .cons rfl (.cons rfl (.cons rfl .nil))⟩
theorem q8 : BindQ p8 f8 := bindQ0 rfl fun kV doc pm an cdv ct us ws h1 h2 => match us, ws, h1, h2 with
  | [u0, u1], [], _, _ => ⟨[u0, u1], by kernel_rfl, .cons rfl (.cons rfl .nil)⟩
theorem q9 : BindQ p9 f9 := bindQ0 rfl fun kV doc pm an cdv ct us ws h1 h2 => match us, ws, h1, h2 with
  | [u0, u1], [], _, _ => ⟨[u0, u1], by kernel_rfl, .cons rfl (.cons rfl .nil)⟩
theorem q10 : BindQ p11 f10 := bindQ0 rfl fun kV doc pm an cdv ct us ws h1 h2 => match us, ws, h1, h2 with
  | [u0], [], _, _ => ⟨[u0], by kernel_rfl, .cons rfl .nil⟩
theorem q11 : BindQ p13 f11 := bindQ0 rfl fun kV doc pm an cdv ct us ws h1 h2 => match us, ws, h1, h2 with
  | [u0, u1], [], _, _ => ⟨[u0, u1], by kernel_rfl, .cons rfl (.cons rfl .nil)⟩
theorem q12 : BindQ p14 f12 := bindQ0 rfl fun kV doc pm an cdv ct us ws h1 h2 => match us, ws, h1, h2 with
  | [u0, u1], [], _, _ => ⟨[u0, u1], by kernel_rfl, .cons rfl (.cons rfl .nil)⟩
theorem q13 : BindQ p15 f13 := bindQ0 rfl fun kV doc pm an cdv ct us ws h1 h2 => match us, ws, h1, h2 with
  | [u0], [], _, _ => ⟨[u0], by kernel_rfl, .cons rfl .nil⟩
theorem q14 : BindQ p16 f14 := bindQ0 rfl fun kV doc pm an cdv ct us ws h1 h2 => match us, ws, h1, h2 with
  | [u0, u1], [], _, _ => ⟨[u0, u1], by kernel_rfl, .cons rfl (.cons rfl .nil)⟩
theorem q15 : BindQ p12 f15 := bindQ0 rfl fun kV doc pm an cdv ct us ws h1 h2 => match us, ws, h1, h2 with
  | [u0, u1, u2], [], _, _ => ⟨[u0, u1, u2], by kernel_rfl, .cons rfl (.cons rfl (.cons rfl .nil))⟩
theorem q16 : BindQ p17 f16 := bindQ0 rfl fun kV doc pm an cdv ct us ws h1 h2 => match us, ws, h1, h2 with
  | [u0, u1], [], _, _ => ⟨[u0, u1], by kernel_rfl, .cons rfl (.cons rfl .nil)⟩
theorem q17 : BindQ p18 f17 := bindQ1 rfl rfl rfl rfl fun T kV doc pm an cdv ct us its h1 h2 => match us, its, h1, h2 with
  | [u0], [z], _, _ => ⟨_, rfl, by kernel_rfl⟩
theorem q18 : BindQ p20 f18 := bindQ0 rfl fun kV doc pm an cdv ct us ws h1 h2 => match us, ws, h1, h2 with
  | [u0, u1], [], _, _ => ⟨[u0, u1], by kernel_rfl, .cons rfl (.cons rfl .nil)⟩
theorem q19 : BindQ p22 f19 := bindQ0 rfl fun kV doc pm an cdv ct us ws h1 h2 => match us, ws, h1, h2 with
  | [u0], [], _, _ => ⟨[u0], by kernel_rfl, .cons rfl .nil⟩
theorem q20 : BindQ p21 f20 := bindQ0 rfl fun kV doc pm an cdv ct us ws h1 h2 => match us, ws, h1, h2 with
  | [u0, u1], [], _, _ => ⟨[u0, u1], by kernel_rfl, .cons rfl (.cons rfl .nil)⟩
theorem q21 : BindQ p23 f21 := bindQ0 rfl fun kV doc pm an cdv ct us ws h1 h2 => match us, ws, h1, h2 with
  | [u0, u1], [], _, _ => ⟨[u0, u1], by kernel_rfl, .cons rfl (.cons rfl .nil)⟩
theorem q22 : BindQ p25 f22 := bindQ0 rfl fun kV doc pm an cdv ct us ws h1 h2 => match us, ws, h1, h2 with
  | [u0, u1], [], _, _ => ⟨[u0, u1], by kernel_rfl, .cons rfl (.cons rfl .nil)⟩
theorem q23 : BindQ p27 f23 := bindQ0 rfl fun kV doc pm an cdv ct us ws h1 h2 => match us, ws, h1, h2 with
  | [u0, u1], [], _, _ => ⟨[u0, u1], by kernel_rfl, .cons rfl (.cons rfl .nil)⟩
theorem q24 : BindQ p28 f24 := bindQ0 rfl fun kV doc pm an cdv ct us ws h1 h2 => match us, ws, h1, h2 with
  | [u0, u1], [], _, _ => ⟨[u0, u1], by kernel_rfl, .cons rfl (.cons rfl .nil)⟩
theorem q25 : BindQ p30 f25 := bindQ0 rfl fun kV doc pm an cdv ct us ws h1 h2 => match us, ws, h1, h2 with
  | [u0, u1], [], _, _ => ⟨[u0, u1], by kernel_rfl, .cons rfl (.cons rfl .nil)⟩
theorem q26 : BindQ p26 f26 := bindQ0 rfl fun kV doc pm an cdv ct us ws h1 h2 => match us, ws, h1, h2 with
  | [u0, u1, u2], [], _, _ => ⟨[u0, u1, u2], by kernel_rfl, .cons rfl (.cons rfl (.cons rfl .nil))⟩
theorem q27 : BindQ p31 f27 := bindQ0 rfl fun kV doc pm an cdv ct us ws h1 h2 => match us, ws, h1, h2 with
  | [u0, u1, u2], [], _, _ => ⟨[u0, u1, u2], by kernel_rfl, .cons rfl (.cons rfl (.cons rfl .nil))⟩
theorem q28 : BindQ p29 f28 := bindQ0 rfl fun kV doc pm an cdv ct us ws h1 h2 => match us, ws, h1, h2 with
  | [u0, u1, u2], [], _, _ => ⟨[u0, u1, u2], by kernel_rfl, .cons rfl (.cons rfl (.cons rfl .nil))⟩
theorem q29 : BindQ p24 f29 := bindQ0 rfl fun kV doc pm an cdv ct us ws h1 h2 => match us, ws, h1, h2 with
  | [u0, u1], [], _, _ => ⟨[u0, u1], by kernel_rfl, .cons rfl (.cons rfl .nil)⟩
theorem q30 : BindQ p32 f30 := bindQ0 rfl fun kV doc pm an cdv ct us ws h1 h2 => match us, ws, h1, h2 with
  | [u0, u1, u2, u3], [], _, _ => ⟨[u0, u1, u2, u3], by kernel_rfl, .cons rfl (.cons rfl (.cons rfl (.cons rfl .nil)))⟩
theorem q31 : BindQ p35 f31 := bindQ0 rfl fun kV doc pm an cdv ct us ws h1 h2 => match us, ws, h1, h2 with
  | [u0, u1, u2, u3], [], _, _ => ⟨[u0, u1, u2, u3], by kernel_rfl, .cons rfl (.cons rfl (.cons rfl (.cons rfl .nil)))⟩
theorem q32 : BindQ p33 f32 := bindQ0 rfl fun kV doc pm an cdv ct us ws h1 h2 => match us, ws, h1, h2 with
  | [u0, u1, u2], [], _, _ => ⟨[u0, u1, u2], by kernel_rfl, .cons rfl (.cons rfl (.cons rfl .nil))⟩
theorem q33 : BindQ p34 f33 := bindQ0 rfl fun kV doc pm an cdv ct us ws h1 h2 => match us, ws, h1, h2 with
  | [u0, u1, u2], [], _, _ => ⟨[u0, u1, u2], by kernel_rfl, .cons rfl (.cons rfl (.cons rfl .nil))⟩
theorem q34 : BindQ p37 f34 := bindQ0 rfl fun kV doc pm an cdv ct us ws h1 h2 => match us, ws, h1, h2 with
  | [u0], [], _, _ => ⟨[u0], by kernel_rfl, .cons rfl .nil⟩
theorem q35 : BindQ p36 f35 := bindQ0 rfl fun kV doc pm an cdv ct us ws h1 h2 => match us, ws, h1, h2 with
  | [u0, u1, u2], [], _, _ => ⟨[u0, u1, u2], by kernel_rfl, .cons rfl (.cons rfl (.cons rfl .nil))⟩
theorem q36 : BindQ p38 f36 := bindQ0 rfl fun kV doc pm an cdv ct us ws h1 h2 => match us, ws, h1, h2 with
  | [u0], [], _, _ => ⟨[u0], by kernel_rfl, .cons rfl .nil⟩
theorem q37 : BindQ p39 f37 := bindQ0 rfl fun kV doc pm an cdv ct us ws h1 h2 => match us, ws, h1, h2 with
  | [u0, u1, u2], [], _, _ => ⟨[u0, u1, u2], by kernel_rfl, .cons rfl (.cons rfl (.cons rfl .nil))⟩
theorem q38 : BindQ p41 f38 := bindQ0 rfl fun kV doc pm an cdv ct us ws h1 h2 => match us, ws, h1, h2 with
  | [u0], [], _, _ => ⟨[u0], by kernel_rfl, .cons rfl .nil⟩
theorem q39 : BindQ p40 f39 := bindQ0 rfl fun kV doc pm an cdv ct us ws h1 h2 => match us, ws, h1, h2 with
  | [u0], [], _, _ => ⟨[u0], by kernel_rfl, .cons rfl .nil⟩
theorem q40 : BindQ p19 f40 := bindQ0 rfl fun kV doc pm an cdv ct us ws h1 h2 => match us, ws, h1, h2 with
  | [u0], [], _, _ => ⟨[u0], by kernel_rfl, .cons rfl .nil⟩
theorem q41 : BindQ p42 f41 := bindQ0 rfl fun kV doc pm an cdv ct us ws h1 h2 => match us, ws, h1, h2 with
  | [u0], [], _, _ => ⟨[u0], by kernel_rfl, .cons rfl .nil⟩
theorem q42 : BindQ p44 f42 := bindQ0 rfl fun kV doc pm an cdv ct us ws h1 h2 => match us, ws, h1, h2 with
  | [u0, u1], [], _, _ => ⟨[u0, u1], by kernel_rfl, .cons rfl (.cons rfl .nil)⟩
theorem q43 : BindQ p45 f43 := bindQ0 rfl fun kV doc pm an cdv ct us ws h1 h2 => match us, ws, h1, h2 with
  | [u0], [], _, _ => ⟨[u0], by kernel_rfl, .cons rfl .nil⟩
theorem q44 : BindQ p46 f44 := bindQ0 rfl fun kV doc pm an cdv ct us ws h1 h2 => match us, ws, h1, h2 with
  | [u0, u1, u2], [], _, _ => ⟨[u0, u1, u2], by kernel_rfl, .cons rfl (.cons rfl (.cons rfl .nil))⟩
theorem q45 : BindQ p50 f45 := bindQ0 rfl fun kV doc pm an cdv ct us ws h1 h2 => match us, ws, h1, h2 with
  | [u0, u1], [], _, _ => ⟨[u0, u1], by kernel_rfl, .cons rfl (.cons rfl .nil)⟩
theorem q46 : BindQ p49 f46 := bindQ0 rfl fun kV doc pm an cdv ct us ws h1 h2 => match us, ws, h1, h2 with
  | [u0, u1], [], _, _ => ⟨[u0, u1], by kernel_rfl, .cons rfl (.cons rfl .nil)⟩
theorem q47 : BindQ p51 f47 := bindQ0 rfl fun kV doc pm an cdv ct us ws h1 h2 => match us, ws, h1, h2 with
  | [u0, u1], [], _, _ => ⟨[u0, u1], by kernel_rfl, .cons rfl (.cons rfl .nil)⟩
theorem q48 : BindQ p48 f48 := bindQ0 rfl fun kV doc pm an cdv ct us ws h1 h2 => match us, ws, h1, h2 with
  | [u0, u1], [], _, _ => ⟨[u0, u1], by kernel_rfl, .cons rfl (.cons rfl .nil)⟩
theorem q49 : BindQ p52 f49 := bindQ0 rfl fun kV doc pm an cdv ct us ws h1 h2 => match us, ws, h1, h2 with
  | [u0, u1], [], _, _ => ⟨[u0, u1], by kernel_rfl, .cons rfl (.cons rfl .nil)⟩
theorem q50 : BindQ p54 f50 := bindQ0 rfl fun kV doc pm an cdv ct us ws h1 h2 => match us, ws, h1, h2 with
  | [u0, u1, u2], [], _, _ => ⟨[u0, u1, u2], by kernel_rfl, .cons rfl (.cons rfl (.cons rfl .nil))⟩
theorem q51 : BindQ p57 f51 := bindQ0 rfl fun kV doc pm an cdv ct us ws h1 h2 => match us, ws, h1, h2 with
  | [u0], [], _, _ => ⟨[u0], by kernel_rfl, .cons rfl .nil⟩
theorem q52 : BindQ p58 f52 := bindQ0 rfl fun kV doc pm an cdv ct us ws h1 h2 => match us, ws, h1, h2 with
  | [u0], [], _, _ => ⟨[u0], by kernel_rfl, .cons rfl .nil⟩
theorem q53 : BindQ p10 f53 := bindQ0 rfl fun kV doc pm an cdv ct us ws h1 h2 => match us, ws, h1, h2 with
  | [u0, u1, u2], [], _, _ => ⟨[u0, u1, u2], by kernel_rfl, .cons rfl (.cons rfl (.cons rfl .nil))⟩
theorem q54 : BindQ p43 f54 := bindQ0 rfl fun kV doc pm an cdv ct us ws h1 h2 => match us, ws, h1, h2 with
  | [u0], [], _, _ => ⟨[u0], by kernel_rfl, .cons rfl .nil⟩
theorem q55 : BindQ p43 f55 := bindQ0 rfl fun kV doc pm an cdv ct us ws h1 h2 => match us, ws, h1, h2 with
  | [], [w0], _, _ => ⟨[w0], by kernel_rfl, .cons rfl .nil⟩
theorem q56 : BindQ p47 f56 := bindQ0 rfl fun kV doc pm an cdv ct us ws h1 h2 => match us, ws, h1, h2 with
  | [u0, u1], [], _, _ => ⟨[u0, u1], by kernel_rfl, .cons rfl (.cons rfl .nil)⟩
theorem q57 : BindQ p55 f57 := bindQ0 rfl fun kV doc pm an cdv ct us ws h1 h2 => match us, ws, h1, h2 with
  | [u0], [], _, _ => ⟨[u0], by kernel_rfl, .cons rfl .nil⟩
theorem q58 : BindQ p59 f58 := bindQ0 rfl fun kV doc pm an cdv ct us ws h1 h2 => match us, ws, h1, h2 with
  | [u0, u1], [], _, _ => ⟨[u0, u1], by kernel_rfl, .cons rfl (.cons rfl .nil)⟩
theorem q59 : BindQ p56 f59 := bindQ0 rfl fun kV doc pm an cdv ct us ws h1 h2 => match us, ws, h1, h2 with
  | [u0, u1], [], _, _ => ⟨[u0, u1], by kernel_rfl, .cons rfl (.cons rfl .nil)⟩
theorem q60 : BindQ p53 f60 := bindQ0 rfl fun kV doc pm an cdv ct us ws h1 h2 => match us, ws, h1, h2 with
  | [u0, u1], [], _, _ => ⟨[u0, u1], by kernel_rfl, .cons rfl (.cons rfl .nil)⟩
theorem q61 : BindQ p53 f61 := bindQ0 rfl fun kV doc pm an cdv ct us ws h1 h2 => match us, ws, h1, h2 with
  | [], [w0, w1], _, _ => ⟨[w1, w0], by kernel_rfl, .cons rfl (.cons rfl .nil)⟩
theorem q62 : BindQ p60 f62 := bindQ0 rfl fun kV doc pm an cdv ct us ws h1 h2 => match us, ws, h1, h2 with
  | [u0], [], _, _ => ⟨[u0], by kernel_rfl, .cons rfl .nil⟩
theorem q63 : BindQ p61 f63 := bindQ0 rfl fun kV doc pm an cdv ct us ws h1 h2 => match us, ws, h1, h2 with
  | [u0, u1], [], _, _ => ⟨[u0, u1], by kernel_rfl, .cons rfl (.cons rfl .nil)⟩
theorem tp {K : PySem.W.Frag} {w : World} {h : Heap} {mg : Str → Option Value} (X : K.In h) (G0 : h.Ns mainGlobals mg) (c : He.SaysD fa fn K) (cx : exB C.G K = true) (tx : ∀ t ∈ C.G.ts, tabO K t.1 = some (He.keysIn w.params (t.2.map (·.1)))) : Tp K w mg pds C.G where
  df := fun id p h => by
    have e : fn[id]? = some p.d := by
      have e2 : fn = pds.map (·.d) := rfl
      rw [e2, List.getElem?_map, h]
      rfl
    exact c.def_ id e
  sc := List.forall_mem_cons.mpr ⟨sc0, List.forall_mem_cons.mpr ⟨sc1, List.forall_mem_cons.mpr ⟨sc2, List.forall_mem_cons.mpr ⟨sc3, List.forall_mem_cons.mpr ⟨sc4, List.forall_mem_cons.mpr ⟨sc5, List.forall_mem_cons.mpr ⟨sc6, List.forall_mem_cons.mpr ⟨sc7, List.forall_mem_cons.mpr ⟨sc8, List.forall_mem_cons.mpr ⟨sc9, List.forall_mem_cons.mpr ⟨sc10, List.forall_mem_cons.mpr ⟨sc11, List.forall_mem_cons.mpr ⟨sc12, List.forall_mem_cons.mpr ⟨sc13, List.forall_mem_cons.mpr ⟨sc14, List.forall_mem_cons.mpr ⟨sc15, List.forall_mem_cons.mpr ⟨sc16, List.forall_mem_cons.mpr ⟨sc17, List.forall_mem_cons.mpr ⟨sc18, List.forall_mem_cons.mpr ⟨sc19, List.forall_mem_cons.mpr ⟨sc20, List.forall_mem_cons.mpr ⟨sc21, List.forall_mem_cons.mpr ⟨sc22, List.forall_mem_cons.mpr ⟨sc23, List.forall_mem_cons.mpr ⟨sc24, List.forall_mem_cons.mpr ⟨sc25, List.forall_mem_cons.mpr ⟨sc26, List.forall_mem_cons.mpr ⟨sc27, List.forall_mem_cons.mpr ⟨sc28, List.forall_mem_cons.mpr ⟨sc29, List.forall_mem_cons.mpr ⟨sc30, List.forall_mem_cons.mpr ⟨sc31, List.forall_mem_cons.mpr ⟨sc32, List.forall_mem_cons.mpr ⟨sc33, List.forall_mem_cons.mpr ⟨sc34, List.forall_mem_cons.mpr ⟨sc35, List.forall_mem_cons.mpr ⟨sc36, List.forall_mem_cons.mpr ⟨sc37, List.forall_mem_cons.mpr ⟨sc38, List.forall_mem_cons.mpr ⟨sc39, List.forall_mem_cons.mpr ⟨sc40, List.forall_mem_cons.mpr ⟨sc41, List.forall_mem_cons.mpr ⟨sc42, List.forall_mem_cons.mpr ⟨sc43, List.forall_mem_cons.mpr ⟨sc44, List.forall_mem_cons.mpr ⟨sc45, List.forall_mem_cons.mpr ⟨sc46, List.forall_mem_cons.mpr ⟨sc47, List.forall_mem_cons.mpr ⟨sc48, List.forall_mem_cons.mpr ⟨sc49, List.forall_mem_cons.mpr ⟨sc50, List.forall_mem_cons.mpr ⟨sc51, List.forall_mem_cons.mpr ⟨sc52, List.forall_mem_cons.mpr ⟨sc53, List.forall_mem_cons.mpr ⟨sc54, List.forall_mem_cons.mpr ⟨sc55, List.forall_mem_cons.mpr ⟨sc56, List.forall_mem_cons.mpr ⟨sc57, List.forall_mem_cons.mpr ⟨sc58, List.forall_mem_cons.mpr ⟨sc59, List.forall_mem_cons.mpr ⟨sc60, List.forall_mem_cons.mpr ⟨sc61, List.forall_mem_cons.mpr ⟨sc62, (fun _ h => nomatch h)⟩⟩⟩⟩⟩⟩⟩⟩⟩⟩⟩⟩⟩⟩⟩⟩⟩⟩⟩⟩⟩⟩⟩⟩⟩⟩⟩⟩⟩⟩⟩⟩⟩⟩⟩⟩⟩⟩⟩⟩⟩⟩⟩⟩⟩⟩⟩⟩⟩⟩⟩⟩⟩⟩⟩⟩⟩⟩⟩⟩⟩⟩⟩
  fs := List.forall_mem_cons.mpr ⟨⟨p1, rfl, He.glo_ok X G0 (c.fact 1 (f := .glo "_law_draw") rfl), rfl, q0⟩, List.forall_mem_cons.mpr ⟨⟨p0, rfl, He.glo_ok X G0 (c.fact 0 (f := .glo "_law_frac") rfl), rfl, q1⟩, List.forall_mem_cons.mpr ⟨⟨p2, rfl, He.glo_ok X G0 (c.fact 2 (f := .glo "_law_number") rfl), rfl, q2⟩, List.forall_mem_cons.mpr ⟨⟨p3, rfl, He.glo_ok X G0 (c.fact 3 (f := .glo "_law_row") rfl), rfl, q3⟩, List.forall_mem_cons.mpr ⟨⟨p4, rfl, He.glo_ok X G0 (c.fact 4 (f := .glo "_law_of") rfl), rfl, q4⟩, List.forall_mem_cons.mpr ⟨⟨p6, rfl, He.glo_ok X G0 (c.fact 6 (f := .glo "_law_plus") rfl), rfl, q5⟩, List.forall_mem_cons.mpr ⟨⟨p7, rfl, He.glo_ok X G0 (c.fact 7 (f := .glo "_law_times") rfl), rfl, q6⟩, List.forall_mem_cons.mpr ⟨⟨p5, rfl, He.glo_ok X G0 (c.fact 5 (f := .glo "_law_lot") rfl), rfl, q7⟩, List.forall_mem_cons.mpr ⟨⟨p8, rfl, He.glo_ok X G0 (c.fact 8 (f := .glo "_law_dot") rfl), rfl, q8⟩, List.forall_mem_cons.mpr ⟨⟨p9, rfl, He.glo_ok X G0 (c.fact 9 (f := .glo "_law_up_to") rfl), rfl, q9⟩, List.forall_mem_cons.mpr ⟨⟨p11, rfl, He.glo_ok X G0 (c.fact 11 (f := .glo "is_whole") rfl), rfl, q10⟩, List.forall_mem_cons.mpr ⟨⟨p13, rfl, He.glo_ok X G0 (c.fact 13 (f := .glo "are_wholes") rfl), rfl, q11⟩, List.forall_mem_cons.mpr ⟨⟨p14, rfl, He.glo_ok X G0 (c.fact 14 (f := .glo "divisor_of") rfl), rfl, q12⟩, List.forall_mem_cons.mpr ⟨⟨p15, rfl, He.glo_ok X G0 (c.fact 15 (f := .glo "is_ratio") rfl), rfl, q13⟩, List.forall_mem_cons.mpr ⟨⟨p16, rfl, He.glo_ok X G0 (c.fact 16 (f := .glo "is_row_by") rfl), rfl, q14⟩, List.forall_mem_cons.mpr ⟨⟨p12, rfl, He.glo_ok X G0 (c.fact 12 (f := .glo "is_between") rfl), rfl, q15⟩, List.forall_mem_cons.mpr ⟨⟨p17, rfl, He.glo_ok X G0 (c.fact 17 (f := .glo "is_wish") rfl), rfl, q16⟩, List.forall_mem_cons.mpr ⟨⟨p18, rfl, He.glo_ok X G0 (c.fact 18 (f := .glo "is_lot_by") rfl), rfl, q17⟩, List.forall_mem_cons.mpr ⟨⟨p20, rfl, He.glo_ok X G0 (c.fact 20 (f := .glo "ratio") rfl), rfl, q18⟩, List.forall_mem_cons.mpr ⟨⟨p22, rfl, He.glo_ok X G0 (c.fact 22 (f := .glo "noughts") rfl), rfl, q19⟩, List.forall_mem_cons.mpr ⟨⟨p21, rfl, He.glo_ok X G0 (c.fact 21 (f := .glo "times") rfl), rfl, q20⟩, List.forall_mem_cons.mpr ⟨⟨p23, rfl, He.glo_ok X G0 (c.fact 23 (f := .glo "unit") rfl), rfl, q21⟩, List.forall_mem_cons.mpr ⟨⟨p25, rfl, He.glo_ok X G0 (c.fact 25 (f := .glo "minus") rfl), rfl, q22⟩, List.forall_mem_cons.mpr ⟨⟨p27, rfl, He.glo_ok X G0 (c.fact 27 (f := .glo "scaled") rfl), rfl, q23⟩, List.forall_mem_cons.mpr ⟨⟨p28, rfl, He.glo_ok X G0 (c.fact 28 (f := .glo "over") rfl), rfl, q24⟩, List.forall_mem_cons.mpr ⟨⟨p30, rfl, He.glo_ok X G0 (c.fact 30 (f := .glo "is_below") rfl), rfl, q25⟩, List.forall_mem_cons.mpr ⟨⟨p26, rfl, He.glo_ok X G0 (c.fact 26 (f := .glo "gaps") rfl), rfl, q26⟩, List.forall_mem_cons.mpr ⟨⟨p31, rfl, He.glo_ok X G0 (c.fact 31 (f := .glo "leaving") rfl), rfl, q27⟩, List.forall_mem_cons.mpr ⟨⟨p29, rfl, He.glo_ok X G0 (c.fact 29 (f := .glo "turned_about") rfl), rfl, q28⟩, List.forall_mem_cons.mpr ⟨⟨p24, rfl, He.glo_ok X G0 (c.fact 24 (f := .glo "first_board") rfl), rfl, q29⟩, List.forall_mem_cons.mpr ⟨⟨p32, rfl, He.glo_ok X G0 (c.fact 32 (f := .glo "descended") rfl), rfl, q30⟩, List.forall_mem_cons.mpr ⟨⟨p35, rfl, He.glo_ok X G0 (c.fact 35 (f := .glo "prices") rfl), rfl, q31⟩, List.forall_mem_cons.mpr ⟨⟨p33, rfl, He.glo_ok X G0 (c.fact 33 (f := .glo "driven_out") rfl), rfl, q32⟩, List.forall_mem_cons.mpr ⟨⟨p34, rfl, He.glo_ok X G0 (c.fact 34 (f := .glo "weights_by") rfl), rfl, q33⟩, List.forall_mem_cons.mpr ⟨⟨p37, rfl, He.glo_ok X G0 (c.fact 37 (f := .glo "opposite") rfl), rfl, q34⟩, List.forall_mem_cons.mpr ⟨⟨p36, rfl, He.glo_ok X G0 (c.fact 36 (f := .glo "least_by") rfl), rfl, q35⟩, List.forall_mem_cons.mpr ⟨⟨p38, rfl, He.glo_ok X G0 (c.fact 38 (f := .glo "turned") rfl), rfl, q36⟩, List.forall_mem_cons.mpr ⟨⟨p39, rfl, He.glo_ok X G0 (c.fact 39 (f := .glo "void_by") rfl), rfl, q37⟩, List.forall_mem_cons.mpr ⟨⟨p41, rfl, He.glo_ok X G0 (c.fact 41 (f := .glo "bounds_in") rfl), rfl, q38⟩, List.forall_mem_cons.mpr ⟨⟨p40, rfl, He.glo_ok X G0 (c.fact 40 (f := .glo "rows_in") rfl), rfl, q39⟩, List.forall_mem_cons.mpr ⟨⟨p19, rfl, He.glo_ok X G0 (c.fact 19 (f := .glo "check_lot") rfl), rfl, q40⟩, List.forall_mem_cons.mpr ⟨⟨p42, rfl, He.glo_ok X G0 (c.fact 42 (f := .glo "void_weights") rfl), rfl, q41⟩, List.forall_mem_cons.mpr ⟨⟨p44, rfl, He.glo_ok X G0 (c.fact 44 (f := .glo "_law_common") rfl), rfl, q42⟩, List.forall_mem_cons.mpr ⟨⟨p45, rfl, He.glo_ok X G0 (c.fact 45 (f := .glo "_law_lowered") rfl), rfl, q43⟩, List.forall_mem_cons.mpr ⟨⟨p46, rfl, He.glo_ok X G0 (c.fact 46 (f := .glo "_law_joined_wish") rfl), rfl, q44⟩, List.forall_mem_cons.mpr ⟨⟨p50, rfl, He.glo_ok X G0 (c.fact 50 (f := .glo "plus") rfl), rfl, q45⟩, List.forall_mem_cons.mpr ⟨⟨p49, rfl, He.glo_ok X G0 (c.fact 49 (f := .glo "is_up_to") rfl), rfl, q46⟩, List.forall_mem_cons.mpr ⟨⟨p51, rfl, He.glo_ok X G0 (c.fact 51 (f := .glo "dot") rfl), rfl, q47⟩, List.forall_mem_cons.mpr ⟨⟨p48, rfl, He.glo_ok X G0 (c.fact 48 (f := .glo "check_row") rfl), rfl, q48⟩, List.forall_mem_cons.mpr ⟨⟨p52, rfl, He.glo_ok X G0 (c.fact 52 (f := .glo "lies_by") rfl), rfl, q49⟩, List.forall_mem_cons.mpr ⟨⟨p54, rfl, He.glo_ok X G0 (c.fact 54 (f := .glo "_law_whole_wish") rfl), rfl, q50⟩, List.forall_mem_cons.mpr ⟨⟨p57, rfl, He.glo_ok X G0 (c.fact 57 (f := .glo "_law_is_whole") rfl), rfl, q51⟩, List.forall_mem_cons.mpr ⟨⟨p58, rfl, He.glo_ok X G0 (c.fact 58 (f := .glo "_law_is_frac") rfl), rfl, q52⟩, List.forall_mem_cons.mpr ⟨⟨p10, rfl, He.glo_ok X G0 (c.fact 10 (f := .glo "_law_inside") rfl), rfl, q53⟩, List.forall_mem_cons.mpr ⟨⟨p43, rfl, He.glo_ok X G0 (c.fact 43 (f := .glo "point_of") rfl), rfl, q54⟩, List.forall_mem_cons.mpr ⟨⟨p43, rfl, He.glo_ok X G0 (c.fact 43 (f := .glo "point_of") rfl), rfl, q55⟩, List.forall_mem_cons.mpr ⟨⟨p47, rfl, He.glo_ok X G0 (c.fact 47 (f := .glo "_law_is_void") rfl), rfl, q56⟩, List.forall_mem_cons.mpr ⟨⟨p55, rfl, He.glo_ok X G0 (c.fact 55 (f := .glo "_law_lot_wishes") rfl), rfl, q57⟩, List.forall_mem_cons.mpr ⟨⟨p59, rfl, He.glo_ok X G0 (c.fact 59 (f := .glo "_law_is_row") rfl), rfl, q58⟩, List.forall_mem_cons.mpr ⟨⟨p56, rfl, He.glo_ok X G0 (c.fact 56 (f := .glo "_law_lies") rfl), rfl, q59⟩, List.forall_mem_cons.mpr ⟨⟨p53, rfl, He.glo_ok X G0 (c.fact 53 (f := .glo "lies_in") rfl), rfl, q60⟩, List.forall_mem_cons.mpr ⟨⟨p53, rfl, He.glo_ok X G0 (c.fact 53 (f := .glo "lies_in") rfl), rfl, q61⟩, List.forall_mem_cons.mpr ⟨⟨p60, rfl, He.glo_ok X G0 (c.fact 60 (f := .glo "_law_right") rfl), rfl, q62⟩, List.forall_mem_cons.mpr ⟨⟨p61, rfl, He.glo_ok X G0 (c.fact 61 (f := .glo "_law_well") rfl), rfl, q63⟩, (fun _ h => nomatch h)⟩⟩⟩⟩⟩⟩⟩⟩⟩⟩⟩⟩⟩⟩⟩⟩⟩⟩⟩⟩⟩⟩⟩⟩⟩⟩⟩⟩⟩⟩⟩⟩⟩⟩⟩⟩⟩⟩⟩⟩⟩⟩⟩⟩⟩⟩⟩⟩⟩⟩⟩⟩⟩⟩⟩⟩⟩⟩⟩⟩⟩⟩⟩⟩
  bl := List.forall_mem_cons.mpr ⟨He.free_ok X G0 (c.fact 63 (f := .free "len") rfl), List.forall_mem_cons.mpr ⟨He.free_ok X G0 (c.fact 64 (f := .free "isinstance") rfl), List.forall_mem_cons.mpr ⟨He.free_ok X G0 (c.fact 65 (f := .free "all") rfl), List.forall_mem_cons.mpr ⟨He.free_ok X G0 (c.fact 66 (f := .free "any") rfl), List.forall_mem_cons.mpr ⟨He.free_ok X G0 (c.fact 67 (f := .free "abs") rfl), List.forall_mem_cons.mpr ⟨He.free_ok X G0 (c.fact 68 (f := .free "max") rfl), List.forall_mem_cons.mpr ⟨He.free_ok X G0 (c.fact 69 (f := .free "min") rfl), List.forall_mem_cons.mpr ⟨He.free_ok X G0 (c.fact 70 (f := .free "divmod") rfl), List.forall_mem_cons.mpr ⟨He.free_ok X G0 (c.fact 71 (f := .free "repr") rfl), List.forall_mem_cons.mpr ⟨He.free_ok X G0 (c.fact 72 (f := .free "sum") rfl), List.forall_mem_cons.mpr ⟨He.free_ok X G0 (c.fact 73 (f := .free "sorted") rfl), List.forall_mem_cons.mpr ⟨He.free_ok X G0 (c.fact 74 (f := .free "int") rfl), List.forall_mem_cons.mpr ⟨He.free_ok X G0 (c.fact 75 (f := .free "bool") rfl), List.forall_mem_cons.mpr ⟨He.free_ok X G0 (c.fact 76 (f := .free "str") rfl), List.forall_mem_cons.mpr ⟨He.free_ok X G0 (c.fact 77 (f := .free "tuple") rfl), List.forall_mem_cons.mpr ⟨He.free_ok X G0 (c.fact 78 (f := .free "list") rfl), List.forall_mem_cons.mpr ⟨He.free_ok X G0 (c.fact 79 (f := .free "dict") rfl), List.forall_mem_cons.mpr ⟨He.free_ok X G0 (c.fact 80 (f := .free "set") rfl), List.forall_mem_cons.mpr ⟨He.free_ok X G0 (c.fact 81 (f := .free "range") rfl), List.forall_mem_cons.mpr ⟨He.free_ok X G0 (c.fact 82 (f := .free "zip") rfl), List.forall_mem_cons.mpr ⟨He.free_ok X G0 (c.fact 83 (f := .free "enumerate") rfl), (fun _ h => nomatch h)⟩⟩⟩⟩⟩⟩⟩⟩⟩⟩⟩⟩⟩⟩⟩⟩⟩⟩⟩⟩⟩
  cs := fun z hz => cstB_ok X G0 (List.all_eq_true.mp (Bool.and_eq_true_iff.mp cx).1 z hz)
  gcd := fun hg => bltB_ok X G0 (by have q := (Bool.and_eq_true_iff.mp (Bool.and_eq_true_iff.mp cx).2).1; rw [hg] at q; simpa using q)
  tb := fun t ht => tab_ok X G0 (tx t ht) (List.all_eq_true.mp (Bool.and_eq_true_iff.mp (Bool.and_eq_true_iff.mp cx).2).2 t ht)
theorem lawdef : (HandSHeadRun.topDef (PySem.W.OpenLaw.row PySem.Challenge.rw_safehelms_k03_whole_points_of_lots).prog 79).name = ("law" : PySem.Str) := by kernel_rfl
end K03
open PySem PySem.W PySem.Calls PyProof.Rows
theorem PySem.Challenge.cw_safehelms_k03_whole_points_of_lots_holds : PySem.Challenge.rw_safehelms_k03_whole_points_of_lots.Holds := by
  w_on; o_law
  refine HandSHeadRun.head_imp (r := OpenLaw.row PySem.Challenge.rw_safehelms_k03_whole_points_of_lots) (q := view (OpenLaw.row PySem.Challenge.rw_safehelms_k03_whole_points_of_lots).prog [0, 79]) (H := K03.hk) (ob := K03.ob) (M := 6000) (loose := K03.loose) (d := HandSHeadRun.topDef (OpenLaw.row PySem.Challenge.rw_safehelms_k03_whole_points_of_lots).prog 79) (kwd := []) K03.ob_eq
    K03.run (by kernel_rfl) (by kernel_rfl) (by kernel_rfl) (by rfl) (by first | assumption | decide +kernel) (by decide +kernel) ⟨rfl, rfl, rfl, rfl, rfl, by decide +kernel⟩ ?hw ?hc
  case hw => w_witness2
  case hc =>
    refine Rf.Fg.walkE (l := PySem.Challenge.rw_safehelms_k03_whole_points_of_lots) (n := K03.most) (k := K03.lv + 1) (x := "_law_script") (by kernel_rfl) (by decide) (by kernel_rfl) ⟨rfl, by decide, by decide⟩ ?F
    intro w mg fa h Y G0 hmg0
    obtain ⟨K, KX, c, cx, tx⟩ := Y
    have hmg : mg ("law" : PySem.Str) = some (.ref fa) := by
      rw [← K03.lawdef]
      exact hmg0
    have T := K03.tp (w := w) KX G0 c cx tx
    obtain ⟨fd, F⟩ := T.df 62 K03.p62 rfl
    have e := hmg.symm.trans (He.glo_ok KX G0 (c.fact 62 (f := .glo "law") rfl))
    cases e
    have b := L2.FunD.bindsA (ps := ["_law_script"]) F fun _ _ _ _ _ _ us hl => match us, hl with | [_], _ => by kernel_rfl
    exact ⟨K, fd, _, KX, fun s v => b s [v] rfl, fun H a ns hl _ hS => Rf.sp_law (F := Rf.callN K03.B K03.lv) (id := 62) (Nat.le_trans hl (by decide)) hS (by rw [← K03.fx]; exact K03.holds ns hl), fun base _ _ => Rf.fg_all (C := K03.C) (W := 1000000) (fu := 200) T K03.lv 62 K03.p62 fd rfl F⟩
