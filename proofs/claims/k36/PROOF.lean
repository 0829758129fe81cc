import PyProof.Rows.All
import Wide.All
import OpenK.AllK
import Wide.FinOn
import HandS.ForMost
import HandS.Wide
import HandS.IsInst
import HandS.Gcd
import HandS.TupAny
import HandS.TupMul
import HandS.Deep
import PyProof.ReprRoads
import PyProof.CallFns
import HandS.Text
import HandS.Style
import HandS.Zip
import HandS.Iter
import KE.GoesNew
import HandS.TupLe
import HandS.More
import HandS.Head0
import HandS.Head1
import HandS.Head2
import HandS.Head3
import HandS.HeadEnd
import HandS.HeadHook1
import HandS.HeadHook2
import HandS.HeadHook3
import PySem.Challenge.RW_safehelms_k36_whole_runs_on_the_machine
set_option Elab.async false
set_option linter.all false
set_option maxRecDepth 100000
set_option autoImplicit false
set_option maxHeartbeats 4000000
namespace Rf
open PySem PySem.Spec PyProof.Rows L2
/-! ## data, stores, results -/
inductive D where
  | non | bl (b : Bool) | int (i : Int) | str (x : Str) | tup (ds : List D) | lst (ds : List D) | ro (ds : List D) | dct (kvs : List (Key × D)) | ref (n : Nat) | fn (n : Nat) | err (c : Nat) (ds : List D)
instance : Inhabited D := ⟨.non⟩
inductive O where
  | lst (ds : List D) | dct (kvs : List (Key × D)) | ins (c : Nat) (fs : List (Str × D))
instance : Inhabited O := ⟨.lst []⟩
abbrev Sto := List O
inductive R (α : Type) where
  | ok (a : α) (s : Sto) | ex (c : Nat) (ds : List D) (s : Sto) | bad
def R.bd {α β : Type} (r : R α) (f : α → Sto → R β) : R β := match r with
  | .ok a s => f a s
  | .ex c ds s => .ex c ds s
  | .bad => .bad
@[simp] theorem R.bd_ok {α β : Type} (a : α) (s : Sto) (f : α → Sto → R β) : (R.ok a s).bd f = f a s := _root_.id rfl
@[simp] theorem R.bd_ex {α β : Type} (c : Nat) (ds : List D) (s : Sto) (f : α → Sto → R β) : (R.ex c ds s).bd f = .ex c ds s := _root_.id rfl
@[simp] theorem R.bd_bad {α β : Type} (f : α → Sto → R β) : (R.bad : R α).bd f = .bad := _root_.id rfl
theorem R.bd_bd {α β γ : Type} (r : R α) (f : α → Sto → R β) (g : β → Sto → R γ) : (r.bd f).bd g = r.bd fun a s => (f a s).bd g := by cases r <;> rfl
/-- it ends rightly, with what is wanted -/
def R.wp {α : Type} (r : R α) (Q : α → Sto → Prop) : Prop := match r with
  | .ok a s => Q a s
  | _ => False
theorem R.wp_bd {α β : Type} {r : R α} {f : α → Sto → R β} {Q : β → Sto → Prop} : (r.bd f).wp Q ↔ r.wp fun a s => (f a s).wp Q := by cases r <;> exact Iff.rfl
theorem R.wp_mono {α : Type} {r : R α} {Q Q' : α → Sto → Prop} (h : r.wp Q) (k : ∀ a s, Q a s → Q' a s) : r.wp Q' := by
  cases r with
  | ok a s => exact k a s h
  | ex => exact h
  | bad => exact h
abbrev Ev := List (Option D)
/-- the meaning of an expression, a test, an argument list -/
abbrev ME := Ev → Sto → R D
abbrev MT := Ev → Sto → R Bool
abbrev MA := Ev → Sto → R (List D)
inductive Fl where
  | nx (e : Ev) | rt (d : D) | bk (e : Ev) | ct (e : Ev)
abbrev MS := Ev → Sto → R Fl
/-! ## how values stand for data: ρ tells where the store's objects lie -/
/-- a tuple (a list) that nobody writes: not one of the store's -/
def KT (K : PySem.W.Frag) (a : Addr) (xs : List V) : Prop := ∃ (o : Obj) (its : Array Value) (n : Nat), K.lookup a = some o ∧ o.cls = .type "tuple" ∧ o.data = .seq its n ∧ its.size ≤ sizeLine ∧ Vals xs its.toList
def KL (K : PySem.W.Frag) (a : Addr) (xs : List V) : Prop := ∃ (o : Obj) (its : Array Value) (n : Nat), K.lookup a = some o ∧ o.cls = .type "list" ∧ o.dict = none ∧ o.data = .seq its n ∧ its.size ≤ sizeLine ∧ Vals xs its.toList
/-- the written part, and places that no value may lie at (a comprehension's list, while it is made) -/
structure Kx where
  K : PySem.W.Frag
  ex : List Addr
/-- neither the store's nor kept apart -/
def Fr1 (K : Kx) (ρ : List Addr) (a : Addr) : Prop := a ∉ ρ ∧ a ∉ K.ex
def FT (K : Kx) (ρ : List Addr) (H : Hp) (a : Addr) (xs : List V) : Prop := (Fr1 K ρ a ∧ Rd H a (.tup xs)) ∨ KT K.K a xs
def FL (K : Kx) (ρ : List Addr) (H : Hp) (a : Addr) (xs : List V) : Prop := (Fr1 K ρ a ∧ Rd H a (.lst xs)) ∨ KL K.K a xs
theorem FT.sq {K : Kx} {ρ : List Addr} {H : Hp} {a : Addr} {xs : List V} (h : FT K ρ H a xs) : SqT K.K H a xs := by
  rcases h with ⟨_, h⟩ | h
  · exact .inl h
  · exact .inr h
theorem FL.sq {K : Kx} {ρ : List Addr} {H : Hp} {a : Addr} {xs : List V} (h : FL K ρ H a xs) : SqL K.K H a xs := by
  rcases h with ⟨_, h⟩ | h
  · exact .inl h
  · exact .inr h
/-- what is wanted of the world of a def's names: functions by number, error classes by number -/
structure Nm where
  fn : Nat → Addr → Prop
  cl : Nat → Addr → Prop
mutual
inductive Rp (K : Kx) (ρ : List Addr) (H : Hp) : V → D → Prop
  | non : Rp K ρ H .non .non
  | bl (b : Bool) : Rp K ρ H (.bl b) (.bl b)
  | int (i : Int) : Rp K ρ H (.int i) (.int i)
  | str (x : Str) : Rp K ρ H (.str x) (.str x)
  | tup {a : Addr} {xs : List V} {ds : List D} : FT K ρ H a xs → xs.length ≤ sizeLine → Rps K ρ H xs ds → Rp K ρ H (.ref a) (.tup ds)
  | lst {a : Addr} {xs : List V} {ds : List D} : Fr1 K ρ a → H a = some (.lst xs) → xs.length ≤ sizeLine → Rps K ρ H xs ds → Rp K ρ H (.ref a) (.lst ds)
  | ro {a : Addr} {xs : List V} {ds : List D} : FL K ρ H a xs → xs.length ≤ sizeLine → Rps K ρ H xs ds → Rp K ρ H (.ref a) (.ro ds)
  | ref {a : Addr} {n : Nat} : ρ[n]? = some a → Rp K ρ H (.ref a) (.ref n)
  | dct {a : Addr} : Fr1 K ρ a → H a = some (.dK []) → Rp K ρ H (.ref a) (.dct [])
inductive Rps (K : Kx) (ρ : List Addr) (H : Hp) : List V → List D → Prop
  | nil : Rps K ρ H [] []
  | cons {v : V} {vs : List V} {d : D} {ds : List D} : Rp K ρ H v d → Rps K ρ H vs ds → Rps K ρ H (v :: vs) (d :: ds)
end
/-- the heap has grown, the store's objects may have changed -/
structure Xt (ρ : List Addr) (H : Hp) (ρ' : List Addr) (H' : Hp) : Prop where
  pre : ∃ l, ρ' = ρ ++ l ∧ ∀ a ∈ l, H a = none ∧ a ∉ ρ
  keep : ∀ a o, a ∉ ρ → H a = some o → H' a = some o
theorem Xt.refl (ρ : List Addr) (H : Hp) : Xt ρ H ρ H := ⟨⟨[], by simp, fun _ h => nomatch h⟩, fun _ _ _ h => h⟩
theorem Xt.same {ρ : List Addr} {H H' : Hp} (s : Same H H') : Xt ρ H ρ H' := ⟨⟨[], by simp, fun _ h => nomatch h⟩, fun _ _ _ h => s _ _ h⟩
theorem Xt.out {ρ ρ1 : List Addr} {H H1 : Hp} (x : Xt ρ H ρ1 H1) {a : Addr} {o : HO} (h1 : a ∉ ρ) (h2 : H a = some o) : a ∉ ρ1 := fun h3 => by
  obtain ⟨⟨l, e, hl⟩, k⟩ := x
  rw [e] at h3
  rcases List.mem_append.mp h3 with h | h
  · exact h1 h
  · rw [(hl a h).1] at h2; cases h2
theorem Xt.trans {ρ ρ1 ρ2 : List Addr} {H H1 H2 : Hp} (x : Xt ρ H ρ1 H1) (y : Xt ρ1 H1 ρ2 H2) : Xt ρ H ρ2 H2 := by
  have nin : ∀ a o, a ∉ ρ → H a = some o → a ∉ ρ1 := fun a o h1 h2 => x.out h1 h2
  obtain ⟨⟨l, e, hl⟩, k⟩ := x
  obtain ⟨⟨l', e', hl'⟩, k'⟩ := y
  refine ⟨⟨l ++ l', by rw [e', e, List.append_assoc], fun a ha => ?_⟩, fun a o h1 h2 => k' a o (nin a o h1 h2) (k a o h1 h2)⟩
  rcases List.mem_append.mp ha with h | h
  · exact hl a h
  · have q : a ∉ ρ := fun z => (hl' a h).2 (by rw [e]; exact List.mem_append_left _ z)
    refine ⟨?_, q⟩
    cases z : H a with
    | none => rfl
    | some o => exact absurd (k a o q z) (by rw [(hl' a h).1]; exact nofun)
theorem Xt.get {ρ ρ' : List Addr} {H H' : Hp} (x : Xt ρ H ρ' H') {n : Nat} {a : Addr} (h : ρ[n]? = some a) : ρ'[n]? = some a := by
  obtain ⟨⟨l, e, _⟩, _⟩ := x
  rw [e, List.getElem?_append_left (List.getElem?_eq_some_iff.mp h).1]
  exact h
section
variable {K : Kx} {ρ ρ' : List Addr} {H H' : Hp}
theorem Xt.rd (x : Xt ρ H ρ' H') {a : Addr} {u : HO} (n : Fr1 K ρ a) (h : Rd H a u) : Fr1 K ρ' a ∧ Rd H' a u := by
  rcases h with h | ⟨o, h⟩
  · exact ⟨⟨x.out n.1 h, n.2⟩, .inl (x.keep _ _ n.1 h)⟩
  · exact ⟨⟨x.out n.1 h, n.2⟩, .inr ⟨o, x.keep _ _ n.1 h⟩⟩
theorem FT.xt (x : Xt ρ H ρ' H') {a : Addr} {xs : List V} (h : FT K ρ H a xs) : FT K ρ' H' a xs := by
  rcases h with ⟨n, h⟩ | h
  · exact .inl (x.rd n h)
  · exact .inr h
theorem FL.xt (x : Xt ρ H ρ' H') {a : Addr} {xs : List V} (h : FL K ρ H a xs) : FL K ρ' H' a xs := by
  rcases h with ⟨n, h⟩ | h
  · exact .inl (x.rd n h)
  · exact .inr h
mutual
theorem Rp.xt (x : Xt ρ H ρ' H') : ∀ (d : D) (v : V), Rp K ρ H v d → Rp K ρ' H' v d
  | _, _, .non => .non
  | _, _, .bl b => .bl b
  | _, _, .int i => .int i
  | _, _, .str y => .str y
  | .tup ds, _, .tup h z r => .tup (h.xt x) z (Rps.xt x ds _ r)
  | .lst ds, _, .lst n h z r => .lst ⟨x.out n.1 h, n.2⟩ (x.keep _ _ n.1 h) z (Rps.xt x ds _ r)
  | .ro ds, _, .ro h z r => .ro (h.xt x) z (Rps.xt x ds _ r)
  | _, _, .ref h => .ref (x.get h)
  | _, _, .dct n h => .dct ⟨x.out n.1 h, n.2⟩ (x.keep _ _ n.1 h)
theorem Rps.xt (x : Xt ρ H ρ' H') : ∀ (ds : List D) (vs : List V), Rps K ρ H vs ds → Rps K ρ' H' vs ds
  | [], _, .nil => .nil
  | d :: ds, _, .cons h r => .cons (Rp.xt x d _ h) (Rps.xt x ds _ r)
end
theorem Rps.length : ∀ {vs : List V} {ds : List D}, Rps K ρ H vs ds → vs.length = ds.length
  | [], [], .nil => rfl
  | _ :: _, _ :: _, .cons _ r => by rw [List.length_cons, List.length_cons, r.length]
theorem Rps.get : ∀ {vs : List V} {ds : List D} {i : Nat} {d : D}, Rps K ρ H vs ds → ds[i]? = some d → ∃ v, vs[i]? = some v ∧ Rp K ρ H v d
  | _, _, _, _, .nil, e => by simp at e
  | _, _, 0, _, .cons h _, e => by simp at e; subst e; exact ⟨_, rfl, h⟩
  | _, _, i + 1, d, .cons _ r, e => by
    obtain ⟨v, h1, h2⟩ := Rps.get (i := i) (d := d) r (by simpa using e)
    exact ⟨v, by simpa using h1, h2⟩
theorem Rps.app : ∀ {vs ws : List V} {ds es : List D}, Rps K ρ H vs ds → Rps K ρ H ws es → Rps K ρ H (vs ++ ws) (ds ++ es)
  | _, _, _, _, .nil, s => s
  | _, _, _, _, .cons h r, s => .cons h (r.app s)
theorem Rps.split : ∀ {ds es : List D} {vs : List V}, Rps K ρ H vs (ds ++ es) → ∃ v1 v2, vs = v1 ++ v2 ∧ Rps K ρ H v1 ds ∧ Rps K ρ H v2 es
  | [], _, vs, h => ⟨[], vs, rfl, .nil, h⟩
  | _ :: ds, es, _, .cons h r => by
    obtain ⟨v1, v2, e, r1, r2⟩ := Rps.split (ds := ds) (es := es) r
    exact ⟨_ :: v1, v2, by rw [e]; rfl, .cons h r1, r2⟩
theorem Rps.take : ∀ {vs : List V} {ds : List D} (n : Nat), Rps K ρ H vs ds → Rps K ρ H (vs.take n) (ds.take n)
  | _, _, 0, _ => .nil
  | _, _, _ + 1, .nil => .nil
  | _, _, n + 1, .cons h r => .cons h (Rps.take n r)
theorem Rps.drop : ∀ {vs : List V} {ds : List D} (n : Nat), Rps K ρ H vs ds → Rps K ρ H (vs.drop n) (ds.drop n)
  | _, _, 0, r => r
  | _, _, _ + 1, .nil => .nil
  | _, _, n + 1, .cons _ r => Rps.drop n r
theorem Rps.set {v : V} {d : D} (h : Rp K ρ H v d) : ∀ {vs : List V} {ds : List D} (n : Nat), Rps K ρ H vs ds → Rps K ρ H (vs.set n v) (ds.set n d)
  | _, _, _, .nil => .nil
  | _, _, 0, .cons _ r => .cons h r
  | _, _, n + 1, .cons q r => .cons q (Rps.set h n r)
theorem Rps.rev {vs : List V} {ds : List D} (h : Rps K ρ H vs ds) : Rps K ρ H vs.reverse ds.reverse := by
  have all : ∀ {vs : List V} {ds : List D}, Rps K ρ H vs ds → ∀ {ws : List V} {es : List D}, Rps K ρ H ws es → Rps K ρ H (vs.reverseAux ws) (ds.reverseAux es) := by
    intro vs
    induction vs with
    | nil => intro ds h ws es r; cases h; exact r
    | cons v vs ih => intro ds h ws es r; cases h with | cons q t => exact ih t (.cons q r)
  exact all h .nil
theorem Rps.rep {v : V} {d : D} (h : Rp K ρ H v d) : ∀ n : Nat, Rps K ρ H (List.replicate n v) (List.replicate n d)
  | 0 => .nil
  | n + 1 => .cons h (Rps.rep h n)
theorem Rps.repl {vs : List V} {ds : List D} (h : Rps K ρ H vs ds) : ∀ n : Nat, Rps K ρ H (List.replicate n vs).flatten (List.replicate n ds).flatten
  | 0 => .nil
  | n + 1 => by rw [List.replicate_succ, List.replicate_succ, List.flatten_cons, List.flatten_cons]; exact h.app (h.repl n)
theorem Rps.erase : ∀ {vs : List V} {ds : List D} (n : Nat), Rps K ρ H vs ds → Rps K ρ H (vs.eraseIdx n) (ds.eraseIdx n)
  | _, _, _, .nil => .nil
  | _, _, 0, .cons _ r => r
  | _, _, n + 1, .cons h r => .cons h (Rps.erase n r)
theorem Rps.dropLast {vs : List V} {ds : List D} (h : Rps K ρ H vs ds) : Rps K ρ H vs.dropLast ds.dropLast := by
  rw [List.dropLast_eq_take, List.dropLast_eq_take, h.length]
  exact h.take _
theorem Rps.ints : ∀ {vs : List V} {ns : List Int}, Rps K ρ H vs (ns.map D.int) → vs = ns.map V.int
  | _, [], .nil => rfl
  | _, n :: ns, .cons (.int _) r => by rw [List.map_cons, ← Rps.ints (ns := ns) r]
theorem Rps.of_ints : ∀ (ns : List Int), Rps K ρ H (ns.map V.int) (ns.map D.int)
  | [] => .nil
  | n :: ns => .cons (.int n) (Rps.of_ints ns)
theorem Rps.bls : ∀ {vs : List V} {ns : List Bool}, Rps K ρ H vs (ns.map D.bl) → vs = ns.map V.bl
  | _, [], .nil => rfl
  | _, n :: ns, .cons (.bl _) r => by rw [List.map_cons, ← Rps.bls (ns := ns) r]
theorem Rps.strs : ∀ {vs : List V} {ns : List Str}, Rps K ρ H vs (ns.map D.str) → vs = ns.map V.str
  | _, [], .nil => rfl
  | _, n :: ns, .cons (.str _) r => by rw [List.map_cons, ← Rps.strs (ns := ns) r]
theorem nodupIx {l : List Addr} (h : l.Nodup) {i j : Nat} {x : Addr} (a : l[i]? = some x) (b : l[j]? = some x) : i = j := by
  obtain ⟨h1, e1⟩ := List.getElem?_eq_some_iff.mp a
  obtain ⟨h2, e2⟩ := List.getElem?_eq_some_iff.mp b
  exact (List.getElem_inj h).mp (e1.trans e2.symm)
/-! ## the store -/
/-- what lies where the store says -/
def Ob (K : Kx) (ρ : List Addr) (H : Hp) (a : Addr) : O → Prop
  | .lst ds => ∃ xs, H a = some (.lst xs) ∧ xs.length ≤ sizeLine ∧ Rps K ρ H xs ds
  | .dct _ => False
  | .ins _ _ => False
structure Hr (K : Kx) (ρ : List Addr) (H : Hp) (st : Sto) : Prop where
  len : ρ.length = st.length
  nd : ρ.Nodup
  exl : ∀ a ∈ K.ex, ∃ o, H a = some o
  exd : ∀ a ∈ K.ex, a ∉ ρ
  ob : ∀ (n : Nat) (a : Addr) (o : O), ρ[n]? = some a → st[n]? = some o → Ob K ρ H a o
theorem Ob.there {a : Addr} {o : O} (h : Ob K ρ H a o) : ∃ u, H a = some u := by
  cases o with
  | lst ds => obtain ⟨xs, e, _⟩ := h; exact ⟨_, e⟩
  | dct => exact h.elim
  | ins => exact h.elim
theorem Hr.there {st : Sto} (h : Hr K ρ H st) {a : Addr} (ha : a ∈ ρ) : ∃ u, H a = some u := by
  obtain ⟨n, hn, e⟩ := List.getElem_of_mem ha
  have hn' : n < st.length := by rw [← h.len]; exact hn
  exact (h.ob n a st[n] (by rw [List.getElem?_eq_getElem hn, e]) (List.getElem?_eq_getElem hn')).there
theorem Hr.new {st : Sto} (h : Hr K ρ H st) {p : Addr} (hp : H p = none) : Fr1 K ρ p := by
  refine ⟨fun ha => ?_, fun ha => ?_⟩
  · obtain ⟨u, e⟩ := h.there ha
    rw [hp] at e; cases e
  · obtain ⟨u, e⟩ := h.exl p ha
    rw [hp] at e; cases e
theorem Ob.xt (x : Xt ρ H ρ' H') {a : Addr} {o : O} (e : H' a = H a) (h : Ob K ρ H a o) : Ob K ρ' H' a o := by
  cases o with
  | lst ds => obtain ⟨xs, q, z, r⟩ := h; exact ⟨xs, by rw [e]; exact q, z, Rps.xt x _ _ r⟩
  | dct => exact h
  | ins => exact h
/-- only growth -/
theorem Hr.same {st : Sto} (h : Hr K ρ H st) (s : Same H H') : Hr K ρ H' st := ⟨h.len, h.nd, fun a ha => let ⟨o, e⟩ := h.exl a ha; ⟨o, s _ _ e⟩, h.exd, fun n a o e1 e2 => by
  have q := h.ob n a o e1 e2
  obtain ⟨u, hu⟩ := q.there
  exact q.xt (.same s) (by rw [hu, s _ _ hu])⟩
theorem same_upd {p : Addr} {o : HO} (hp : H p = none) : Same H (upd H p o) := fun b u e => by rw [upd_ne (ne_of_none e hp)]; exact e
/-- a new object of the store -/
theorem Hr.push {st : Sto} (h : Hr K ρ H st) {p : Addr} {u : HO} {o : O} (hp : H p = none) (q : ∀ ρ' H', Xt ρ H ρ' H' → H' p = some u → Ob K ρ' H' p o) : Hr K (ρ ++ [p]) (upd H p u) (st ++ [o]) ∧ Xt ρ H (ρ ++ [p]) (upd H p u) := by
  have np := (h.new hp).1
  have x : Xt ρ H (ρ ++ [p]) (upd H p u) := ⟨⟨[p], rfl, fun a ha => by
    have e : a = p := by simpa using ha
    subst e; exact ⟨hp, np⟩⟩, fun a v _ e => same_upd hp _ _ e⟩
  refine ⟨⟨by simp [h.len], ?_, fun a ha => let ⟨v, e⟩ := h.exl a ha; ⟨v, same_upd hp _ _ e⟩, fun a ha hm => ?_, fun n a v e1 e2 => ?_⟩, x⟩
  · rw [List.nodup_append]
    exact ⟨h.nd, by simp, fun a ha b hb e => by
      have e' : b = p := by simpa using hb
      subst e' e; exact np ha⟩
  · rcases List.mem_append.mp hm with z | z
    · exact h.exd a ha z
    · have e : a = p := by simpa using z
      subst e
      exact (h.new hp).2 ha
  · by_cases hn : n < ρ.length
    · rw [List.getElem?_append_left hn] at e1
      rw [List.getElem?_append_left (by rw [← h.len]; exact hn)] at e2
      have w := h.ob n a v e1 e2
      obtain ⟨t, ht⟩ := w.there
      exact w.xt x (by rw [ht, same_upd hp _ _ ht])
    · have h1 : n = ρ.length := by
        have := (List.getElem?_eq_some_iff.mp e1).1
        simp at this; omega
      subst h1
      simp at e1
      rw [h.len] at e2
      simp at e2
      subst e1 e2
      exact q _ _ x upd_same
/-- an object of the store is changed -/
theorem Hr.put {st : Sto} (h : Hr K ρ H st) {n : Nat} {a : Addr} {u : HO} {o : O} (ha : ρ[n]? = some a) (q : ∀ ρ' H', Xt ρ H ρ' H' → H' a = some u → Ob K ρ' H' a o) : Hr K ρ (upd H a u) (st.set n o) ∧ Xt ρ H ρ (upd H a u) := by
  have am : a ∈ ρ := List.mem_of_getElem? ha
  have x : Xt ρ H ρ (upd H a u) := ⟨⟨[], by simp, fun _ h => nomatch h⟩, fun b v nb e => by rw [upd_ne (fun z => nb (by rw [z]; exact am))]; exact e⟩
  refine ⟨⟨by simp [h.len], h.nd, fun b hb => ?_, h.exd, fun m b v e1 e2 => ?_⟩, x⟩
  · obtain ⟨v, e⟩ := h.exl b hb
    exact ⟨v, by rw [upd_ne (fun z => h.exd b hb (by rw [z]; exact am))]; exact e⟩
  by_cases e : m = n
  · subst e
    rw [ha] at e1; cases e1
    have hl := (List.getElem?_eq_some_iff.mp e2).1
    rw [List.getElem?_set_self (by simpa using hl)] at e2
    cases e2
    exact q _ _ x upd_same
  · rw [List.getElem?_set_ne (Ne.symm e)] at e2
    have nb : b ≠ a := fun z => by
      subst z
      exact e (nodupIx h.nd e1 ha)
    exact (h.ob m b v e1 e2).xt x (upd_ne nb)
/-- what is kept apart may be let go -/
structure Lss (K K' : Kx) : Prop where
  k : K'.K = K.K
  s : ∀ a, a ∈ K'.ex → a ∈ K.ex
theorem Lss.ft {K' : Kx} (l : Lss K K') {a : Addr} {xs : List V} (h : FT K ρ H a xs) : FT K' ρ H a xs := h.imp (fun z => ⟨⟨z.1.1, fun q => z.1.2 (l.s _ q)⟩, z.2⟩) fun z => by rw [l.k]; exact z
theorem Lss.fl {K' : Kx} (l : Lss K K') {a : Addr} {xs : List V} (h : FL K ρ H a xs) : FL K' ρ H a xs := h.imp (fun z => ⟨⟨z.1.1, fun q => z.1.2 (l.s _ q)⟩, z.2⟩) fun z => by rw [l.k]; exact z
mutual
theorem Rp.less {K' : Kx} (l : Lss K K') : ∀ (d : D) (v : V), Rp K ρ H v d → Rp K' ρ H v d
  | _, _, .non => .non
  | _, _, .bl b => .bl b
  | _, _, .int i => .int i
  | _, _, .str y => .str y
  | .tup ds, _, .tup h z r => .tup (l.ft h) z (Rps.less l ds _ r)
  | .lst ds, _, .lst n h z r => .lst ⟨n.1, fun q => n.2 (l.s _ q)⟩ h z (Rps.less l ds _ r)
  | .ro ds, _, .ro h z r => .ro (l.fl h) z (Rps.less l ds _ r)
  | _, _, .ref h => .ref h
  | _, _, .dct n h => .dct ⟨n.1, fun q => n.2 (l.s _ q)⟩ h
theorem Rps.less {K' : Kx} (l : Lss K K') : ∀ (ds : List D) (vs : List V), Rps K ρ H vs ds → Rps K' ρ H vs ds
  | [], _, .nil => .nil
  | d :: ds, _, .cons h r => .cons (Rp.less l d _ h) (Rps.less l ds _ r)
end
end
end Rf
set_option maxHeartbeats 4000000
namespace Rf
open PySem PySem.Spec PyProof.Rows L2
/-! ## a def's promise, called where no text of a container is being made -/
def Gq (A : Around) : Prop := A.guards = some []
structure Fg (P : Program) (w : World) (K : PySem.W.Frag) (mg : Str → Option Value) (base : Heap) (k : Nat) (f : Addr) (fd : FuncData) (ps : List Str) (sp : List V → Hp → VK → Prop) : Prop where
  len : ∀ vs H Q, sp vs H Q → vs.length = ps.length
  run : ∀ (A : Around) (outer : List Env) (s : Shared) (H : Hp) (args : Args) (us : List Value) (vs : List V) (Q : VK), Gq A → Room k A → Env0 P w K mg base A outer s H →
    BindsTo s fd args (ps.zip us) → Vals vs us → sp vs H Q → codeAny (model P w) A (.call (.ref f) args) (CR CX0 outer P w H s Q E0) s
section
variable {X : Cx} {k : Nat} {f : Addr} {fd : FuncData} {ps ks : List Str} {sp : List V → Hp → VK → Prop}
/-- the call of a def's object, its arguments bound in some way -/
theorem Fg.go {pins : List (Addr × Obj)} {σ : L2.St} {H : Hp} {s : Shared} {Q : VK} {us ws : List Value} {vs : List V} {kw : List (Str × Value)} (F : Fg X.prog X.w X.K X.mg X.base k f fd ps sp)
    (hg : Gq X.A) (hr : Room k X.A) (hb : BindsTo s fd ⟨us, kw⟩ (ps.zip ws)) (I : Inv X pins σ H s) (r : Vals vs ws) (h : sp vs H Q) :
    wpAny (model X.prog X.w) X.A (call (.ref f) us kw) (EP X pins σ Q) X.xe s := by
  have go := F.run X.A X.stack s H ⟨us, kw⟩ ws vs Q hg hr I.env0 hb r h
  exact wpAny_call (codeAny_mono go fun res s' z => match res, z with
    | .ok (.ret u), z => I.after z
    | .ok .next, z => z.elim
    | .ok .brk, z => z.elim
    | .ok .cont, z => z.elim
    | .error e, z => z.elim)
end
/-- a def's body: what its text does is what it promises -/
theorem Fg.body {P : Program} {w : World} {K : PySem.W.Frag} {mg : Str → Option Value} {base : Heap} {x qual : Str} {k : Nat} {f : Addr} {N ps : List Str} {params : Arguments} {stm : List Stmt} {sc : Scope}
    {dV kV doc pm cdv ct oc : Value} {an od : Option Addr} {osl : Array (Option Value)} {sp : List V → Hp → VK → Prop}
    (lk : K.lookup f = some ⟨oc, od, .func (PySem.W.fnOf x qual params stm sc dV kV doc pm an cdv ct), osl⟩) (hcd : PySem.W.codeIn K cdv qual = true)
    (S : FnScope N ps sc) (len : ∀ vs H Q, sp vs H Q → vs.length = ps.length)
    (hb : ∀ (A : Around) (outer : List Env) (s : Shared) (H : Hp) (vs : List V) (Q : VK), Gq A → Room k (A.deeper (envOfC qual sc s.heap.objs.size f cdv)) → sp vs H Q →
      ∃ t, PSs (cxOf CX0 P w K mg base N qual sc f cdv A outer s H E0).nox stm t ∧ t { nx := fun _ H' => Q .non H', rt := Q } (start N vs) H) :
    Fg P w K mg base (k + 1) f (PySem.W.fnOf x qual params stm sc dV kV doc pm an cdv ct) ps sp where
  len := len
  run := fun A outer s H args us vs Q hg hr e0 hbn r hsp => by
    have old : ∀ b o, base.get? b = some o → s.heap.get? b = some o := fun b o e => (e0.bs b o e).1
    have KX := e0.mod.kin.keeps old
    have kinds : ∀ y ∈ ps.zip us, sc.names.lookup y.1 = some .local ∨ (sc.names.lookup y.1 = some .cell ∧ ((cellsFrom (s.heap.objs.size + 1) sc.names []).lookup y.1).isSome = true) := by
      rintro ⟨n, v⟩ hy
      exact (S.par n (List.of_mem_zip hy).1).imp id fun q => ⟨q, PySem.W.cellsFrom_some _ _ _ (.inl q)⟩
    refine codeAny_call_function hr.depth (KX _ _ lk) rfl S.co S.gen rfl (PySem.W.codeRec_of KX hcd) (hbn _ _ _ _ (wpAny_newFunctionEnv_cells S.kind kinds fun env he s1 ic => ?_))
    subst he
    refine ⟨(e0.mod.nolimit.keeps old).keeps ic.toInCall.keep, codeAny_func ?_⟩
    obtain ⟨t, ht, hq⟩ := hb A outer s H vs Q hg (hr.deeper _) hsp
    have I := inv_start (CX := CX0) (E := E0) S hr.hd e0 (len _ _ _ hsp) r ic
    refine wpAny_mono (ht.nox.run [] s1 (start N vs) H _ I hq) (fun fl s' z => ?_) fun _ _ z => z
    match fl, z with
    | .ret u, ⟨v, σ', H', J, rv, q⟩ => exact ⟨v, H', J.os, J.bare, J.base, J.hok, rv, q⟩
    | .next, ⟨σ', H', J, q⟩ => exact ⟨.non, H', J.os, J.bare, J.base, J.hok, rfl, q⟩
    | .brk, ⟨_, _, _, q⟩ => exact q.elim
    | .cont, ⟨_, _, _, q⟩ => exact q.elim
/-- the law's call from its promise -/
theorem Fg.law {P : Program} {w : World} {K : PySem.W.Frag} {mg mb : Str → Option Value} {k : Nat} {fa a : Addr} {fd : FuncData} {x : Str} {sp : List V → Hp → VK → Prop} {s : Shared} {vs : List Value} {ns : List Int}
    (KX : K.In s.heap) (hns : s.heap.Ns mainGlobals mg) (hb : s.heap.Ns builtinsNs mb) (hbb : ∀ x : Str, x ≠ "__name__" → mb x = bootBuiltins x) (hlim : s.heap.NoLimit) (hg : s.gens = #[])
    (ha : s.heap.get? a = some { cls := .type "list", data := .seq vs.toArray }) (hi : IntsAre vs ns) (hl : ns.length ≤ sizeLine) (hr : Room k callerA)
    (F : ∀ base : Heap, K.In base → base.Ns mainGlobals mg → Fg P w K mg base k fa fd [x] sp) (hbind : ∀ (s : Shared) (u : Value), BindsTo s fd ⟨[u], []⟩ [(x, u)])
    (hsp : ∀ H : Hp, Only H → SqL K H a (ns.map V.int) → sp [.ref a] H (fun v _ => v = .bl true)) :
    codeAny (model P w) callerA (.call (.ref fa) ⟨[.ref a], []⟩) (fun r s' => r = .ok (.ret (.bool true)) ∧ OldK s.heap s'.heap ∧ s'.os = s.os ∧ AllBare s'.gens) s := by
  have rv := vals_ints hi
  -- one abstract heap, in which nothing stands but the script, if it is no object of the module
  have main : ∀ H : Hp, Only H → SqL K H a (ns.map V.int) → HOk P w H s.heap → (∀ b u, H b = some u → b = a ∧ K.lookup a = none) →
      codeAny (model P w) callerA (.call (.ref fa) ⟨[.ref a], []⟩) (fun r s' => r = .ok (.ret (.bool true)) ∧ OldK s.heap s'.heap ∧ s'.os = s.os ∧ AllBare s'.gens) s := by
    intro H hO hS hok hA
    have clear : ∀ b, (∀ u, H b = some u → False) → H b = none := fun b h => by
      cases q : H b with
      | none => rfl
      | some u => exact (h u q).elim
    have nsK : ∀ {b : Addr} {m : Str → Option Value}, s.heap.Ns b m → (hidT s.heap H).Ns b m := by
      rintro b m ⟨o, es, ep, e, d, rest⟩
      refine ⟨o, es, ep, hidT_get e (clear b fun u q => ?_), d, rest⟩
      obtain ⟨e', _⟩ := hA b u q
      rw [e', ha] at e
      cases e
      exact nomatch (d : Data.seq vs.toArray _ = Data.dict es ep)
    have kin : K.In (hidT s.heap H) := fun b o e => hidT_get (KX b o e) (clear b fun u q => by
      obtain ⟨e', e2⟩ := hA b u q
      rw [e', e2] at e
      cases e)
    obtain ⟨mc, m1, m2⟩ := hlim
    have e0 : Env0 P w K mg (hidT s.heap H) callerA [] s H :=
      { frames := rfl, mod := ⟨kin, nsK hns, ⟨mb, nsK hb, hbb⟩, ⟨mc, nsK m1, m2⟩⟩, bs := fun b o e => of_hidT e, bsz := Nat.le_of_eq (hidT_size _ _), funs := trivial,
        frf := (fun b h => (nomatch (h : b ∈ ([] : List Addr)))), hok := hok, bare := .of_eq hg }
    refine codeAny_mono ((F _ kin (nsK hns)).run callerA [] s H ⟨[.ref a], []⟩ [.ref a] [.ref a] _ rfl hr e0 (hbind s (.ref a)) (.cons rfl .nil) (hsp H hO hS)) fun r s' z => ?_
    match r, z with
    | .error e, z => exact z.elim
    | .ok .next, z => exact z.elim
    | .ok .brk, z => exact z.elim
    | .ok .cont, z => exact z.elim
    | .ok (.ret u), ⟨v, H', os, bare, un, hok', r', q⟩ =>
      have q2 : v = .bl true := q
      subst q2
      have q3 : u = Value.bool true := r'
      subst q3
      refine ⟨rfl, OldK.of_keep fun b o e => ?_, os, bare⟩
      rcases hO b with z | ⟨ob, xs, z⟩
      · exact un.keep b o e z (fun h => nomatch (h : b ∈ ([] : List Addr))) (fun h => nomatch h)
      · have h1 : s.heap.get? b = some ob := (hok b _ z).1
        have h2 : s'.heap.get? b = some ob := (hok' b _ (un.frzs b ob _ z)).1
        rw [e] at h1
        rw [h2, h1]
  cases hk : K.lookup a with
  | some o =>
    have e := KX a o hk
    rw [ha] at e
    cases e
    exact main (fun _ => none) (fun _ => .inl rfl) (.inr ⟨_, vs.toArray, _, hk, rfl, rfl, rfl, by simpa [hi.length] using hl, by simpa using rv⟩) (fun _ _ z => nomatch (z : (none : Option HO) = some _))
      fun _ _ z => nomatch (z : (none : Option HO) = some _)
  | none =>
    have at_ : ∀ (b : Addr) (u : HO), (if b = a then some (HO.frz { cls := .type "list", data := .seq vs.toArray } (.lst (ns.map V.int))) else none) = some u → b = a ∧ u = .frz { cls := .type "list", data := .seq vs.toArray } (.lst (ns.map V.int)) := by
      intro b u z
      by_cases hb : b = a
      · rw [if_pos hb] at z
        exact ⟨hb, (Option.some.inj z).symm⟩
      · rw [if_neg hb] at z
        cases z
    refine main (fun b => if b = a then some (.frz { cls := .type "list", data := .seq vs.toArray } (.lst (ns.map V.int))) else none) (fun b => ?_) (.inl (.inr ⟨_, if_pos rfl⟩)) (fun b u z => ?_) fun b u z => ⟨(at_ b u z).1, hk⟩
    · by_cases hb : b = a
      · exact .inr ⟨_, _, if_pos hb⟩
      · exact .inl (if_neg hb)
    · obtain ⟨rfl, rfl⟩ := at_ b u z
      exact ⟨ha, by simpa using hl, vs, _, rv, ha⟩
/-- the goal behind k_head -/
theorem Fg.walk {l : PySem.W.OpenLaw} {n k : Nat} {q : Program} {loose : List Str} {XP : (Str → Option Value) → Heap → Prop} {YP : World → Heap → Prop} {d : DefRec} {K : Params → PySem.W.Frag} {sp : PySem.W.Frag → List V → Hp → VK → Prop} {x : Str}
    (hn : l.most = some n) (hn2 : n ≤ sizeLine) (hdf : d.params.defaults = []) (hr : Room k callerA) (hY : ∀ (w : World) (h : Heap), YP w h → (K w.params).In h)
    (F : ∀ (w : World) (mg : Str → Option Value) (fa : Addr) (h : Heap), (K w.params).In h → h.Ns mainGlobals mg → mg d.name = some (.ref fa) →
      ∃ fd : FuncData, (∀ (s : Shared) (u : Value), BindsTo s fd ⟨[u], []⟩ [(x, u)]) ∧ ∀ base : Heap, (K w.params).In base → base.Ns mainGlobals mg → Fg l.prog w (K w.params) mg base k fa fd [x] (sp (K w.params)))
    (hsp : ∀ (K : PySem.W.Frag) (H : Hp) (a : Addr) (ns : List Int), ns.length ≤ n → Only H → SqL K H a (ns.map V.int) → sp K [.ref a] H (fun v _ => v = .bl true)) :
    PySem.W.WalkO q loose XP YP l.row.toRowW d [] (fun f vs => PySem.call f vs) := by
  refine Att.attach_call hn hdf fun w s₀ s₁ mg mb fa o pm cd doc a vs ns G Y ho hd hcd hmg hobj hints hlen hg => ?_
  obtain ⟨fd, hb, hF⟩ := F w mg fa _ (hY w _ Y) G.T.g hmg
  exact Fg.law (hY w _ Y) G.T.g G.T.b G.T.builtins G.T.nolimit hg hobj hints (Nat.le_trans hlen hn2) hr hF hb (fun H hO hS => hsp (K w.params) H a ns hlen hO hS)
end Rf
set_option maxHeartbeats 4000000
namespace Rf
open PySem PySem.Spec L2
open PyProof.Rows hiding St
/-! ## what may be asked of a piece of text, at its weakest -/
def RE (X : Cx) (e : Expr) : TE := fun σ H Q => ∀ (pins : List (Addr × Obj)) (s : Shared), Inv X pins σ H s → wpAny (model X.prog X.w) X.A (eval e X.env) (EP X pins σ Q) X.xe s
theorem pe_re {X : Cx} {e : Expr} : PE X e (RE X e) := ⟨fun pins s _ _ _ I h => h pins s I⟩
theorem _root_.L2.PE.re {X : Cx} {e : Expr} {t : TE} (h : PE X e t) {σ : L2.St} {H : Hp} {Q : VK} (q : t σ H Q) : RE X e σ H Q := fun pins s I => h.run pins s σ H Q I q
def RT (X : Cx) (e : Expr) : TT := fun σ H Q => ∀ (pins : List (Addr × Obj)) (s : Shared), Inv X pins σ H s → wpAny (model X.prog X.w) X.A (isTrue e X.env (eval e X.env)) (TP X pins σ Q) X.xe s
theorem pt_rt {X : Cx} {e : Expr} : PT X e (RT X e) := ⟨fun pins s _ _ _ I h => h pins s I⟩
theorem _root_.L2.PT.rt {X : Cx} {e : Expr} {t : TT} (h : PT X e t) {σ : L2.St} {H : Hp} {Q : Bool → Hp → Prop} (q : t σ H Q) : RT X e σ H Q := fun pins s I => h.run pins s σ H Q I q
def RA (X : Cx) (es : List Expr) : TA := fun σ H Q => ∀ (pos : Pos) (pins : List (Addr × Obj)) (s : Shared), Inv X pins σ H s → wpAny (model X.prog X.w) X.A (spliced (backTo pos (starEach es X.env))) (AP X pins σ Q) X.xe s
theorem pa_ra {X : Cx} {es : List Expr} : PA X es (RA X es) := ⟨fun pos pins s _ _ _ I h => h pos pins s I⟩
theorem _root_.L2.PA.ra {X : Cx} {es : List Expr} {t : TA} (h : PA X es t) {σ : L2.St} {H : Hp} {Q : List V → Hp → Prop} (q : t σ H Q) : RA X es σ H Q := fun pos pins s I => h.run pos pins s σ H Q I q
def RS (X : Cx) (ss : List Stmt) : TS := fun D σ H => ∀ (pins : List (Addr × Obj)) (s : Shared), Inv X pins σ H s → wpAny (model X.prog X.w) X.A (execs ss X.env) (SP X pins D) X.xe s
theorem pss_rs {X : Cx} {ss : List Stmt} : PSs X ss (RS X ss) := ⟨fun pins s _ _ _ I h => h pins s I⟩
theorem _root_.L2.PSs.rs {X : Cx} {ss : List Stmt} {t : TS} (h : PSs X ss t) {σ : L2.St} {H : Hp} {D : Ends} (q : t D σ H) : RS X ss D σ H := fun pins s I => h.run pins s σ H D I q
def RX (X : Cx) (st : Stmt) : TS := fun D σ H => ∀ (pins : List (Addr × Obj)) (s : Shared), Inv X pins σ H s → wpAny (model X.prog X.w) X.A (exec st X.env) (SP X pins D) X.xe s
theorem ps_rx {X : Cx} {st : Stmt} : PS X st (RX X st) := ⟨fun pins s _ _ _ I h => h pins s I⟩
theorem _root_.L2.PS.rx {X : Cx} {st : Stmt} {t : TS} (h : PS X st t) {σ : L2.St} {H : Hp} {D : Ends} (q : t D σ H) : RX X st D σ H := fun pins s I => h.run pins s σ H D I q
def RG (X : Cx) (tg : Expr) : TG := fun v σ H Q => ∀ (pins : List (Addr × Obj)) (s : Shared) (u : Value), Inv X pins σ H s → RelV v u → wpAny (model X.prog X.w) X.A (assign tg X.env u) (fun _ s' => ∃ σ' H', Inv X pins σ' H' s' ∧ Q σ' H') X.xe s
theorem pg_rg {X : Cx} {tg : Expr} : PG X tg (RG X tg) := ⟨fun pins s _ _ _ u _ I r h => h pins s u I r⟩
theorem _root_.L2.PG.rg {X : Cx} {tg : Expr} {t : TG} (h : PG X tg t) {v : V} {σ : L2.St} {H : Hp} {Q : L2.St → Hp → Prop} (q : t v σ H Q) : RG X tg v σ H Q := fun pins s u I r => h.run pins s σ H v u Q I r q
def RGs (X : Cx) (ts : List Expr) : TGs := fun vs σ H Q => ∀ (pins : List (Addr × Obj)) (s : Shared) (us : List Value), Inv X pins σ H s → Vals vs us →
  wpAny (model X.prog X.w) X.A (assignInOrder ((assignEach ts X.env).map (·.2)) us) (fun _ s' => ∃ σ' H', Inv X pins σ' H' s' ∧ Q σ' H') X.xe s
theorem pgs_rgs {X : Cx} {ts : List Expr} : PGs X ts (RGs X ts) := ⟨fun pins s _ _ _ us _ I r h => h pins s us I r⟩
theorem _root_.L2.PGs.rgs {X : Cx} {ts : List Expr} {t : TGs} (h : PGs X ts t) {vs : List V} {σ : L2.St} {H : Hp} {Q : L2.St → Hp → Prop} (q : t vs σ H Q) : RGs X ts vs σ H Q := fun pins s us I r => h.run pins s σ H vs us Q I r q
def RI (X : Cx) (tg it : Expr) : TI := fun σ H R => ∀ (pins : List (Addr × Obj)) (s : Shared), Inv X pins σ H s → wpAny (model X.prog X.w) X.A (eval it X.env) (fun v s1 => wpAny (model X.prog X.w) X.A (pyIter v) (PIE X pins σ tg R) X.xe s1) X.xe s
theorem pi_ri {X : Cx} {tg it : Expr} : PI X tg it (RI X tg it) := ⟨fun pins s _ _ _ I h => h pins s I⟩
theorem _root_.L2.PI.ri {X : Cx} {tg it : Expr} {t : TI} (h : PI X tg it t) {σ : L2.St} {H : Hp} {R : It → Hp → Prop} (q : t σ H R) : RI X tg it σ H R := fun pins s I => h.run pins s σ H R I q
abbrev _root_.L2.Cx.kx (X : Cx) (ξ : List Addr) : Kx := ⟨X.K, ξ⟩
/-! ## the slots -/
structure Er (K : Kx) (ρ : List Addr) (H : Hp) (σ : L2.St) (env : Ev) : Prop where
  len : σ.length = env.length
  at_ : ∀ (i : Nat) (d : D), env[i]? = some (some d) → ∃ v, σ[i]? = some (some v) ∧ Rp K ρ H v d
section
variable {K : Kx} {ρ ρ' : List Addr} {H H' : Hp} {σ : L2.St} {env : Ev}
theorem Er.xt (h : Er K ρ H σ env) (x : Xt ρ H ρ' H') : Er K ρ' H' σ env := ⟨h.len, fun i d e => let ⟨v, h1, h2⟩ := h.at_ i d e; ⟨v, h1, h2.xt x⟩⟩
theorem Er.set (h : Er K ρ H σ env) {i : Nat} {v : V} {d : D} (r : Rp K ρ H v d) : Er K ρ H (σ.set i (some v)) (env.set i (some d)) := by
  refine ⟨by simp [h.len], fun j e hj => ?_⟩
  by_cases q : i = j
  · subst q
    have hl : i < env.length := by
      have := (List.getElem?_eq_some_iff.mp hj).1
      simpa using this
    rw [List.getElem?_set_self hl] at hj
    cases hj
    exact ⟨v, List.getElem?_set_self (by rw [h.len]; exact hl), r⟩
  · rw [List.getElem?_set_ne q] at hj
    obtain ⟨w, h1, h2⟩ := h.at_ j e hj
    exact ⟨w, by rw [List.getElem?_set_ne q]; exact h1, h2⟩
/-- slots are forgotten -/
theorem Er.drop (h : Er K ρ H σ env) (i : Nat) : Er K ρ H (σ.set i none) (env.set i none) := by
  refine ⟨by simp [h.len], fun j e hj => ?_⟩
  by_cases q : i = j
  · subst q
    have hl : i < env.length := by
      have := (List.getElem?_eq_some_iff.mp hj).1
      simpa using this
    rw [List.getElem?_set_self hl] at hj
    cases hj
  · rw [List.getElem?_set_ne q] at hj
    obtain ⟨w, h1, h2⟩ := h.at_ j e hj
    exact ⟨w, by rw [List.getElem?_set_ne q]; exact h1, h2⟩
end
def wipeE (env : Ev) : List Nat → Ev
  | [] => env
  | v :: vs => (wipeE env vs).set v none
theorem Er.wipe {K : Kx} {ρ : List Addr} {H : Hp} {σ : L2.St} {env : Ev} (h : Er K ρ H σ env) : ∀ vs : List Nat, Er K ρ H (wipe σ vs) (wipeE env vs)
  | [] => h
  | v :: vs => (Er.wipe h vs).drop v
/-! ## where one stands -/
/-- a def's (a block's) names: its scope, its slots, the names that may be stored to -/
structure Ci where
  sc : Scope
  N : List Str
  sb : List Str
structure Gd (X : Cx) (c : Ci) : Prop where
  hN : X.N = c.N
  hsc : X.env.scope = c.sc
  calm : X.calm = true
  nd : c.N.Nodup
  hst : ∀ x ∈ c.sb, X.fn x = true ∨ X.env.scope.names.lookup x = some .local
  xe : X.xe = fun _ _ => False
/-- whence a parameter's value comes: an argument, by place, or an int that stands in the text -/
inductive Src where
  | at (i : Nat) | int (i : Int)
  deriving DecidableEq
def Src.get (ds : List D) : Src → D
  | .at i => ds.getD i .non
  | .int i => .int i
/-- a way to call a def: its name, how many arguments by place, which by name; its number, whence its parameters come -/
structure Fi where
  nm : Str
  np : Nat
  kw : List Str
  id : Nat
  arr : List Src
  deriving DecidableEq
structure Gi where
  fs : List Fi
  cs : List (Str × D)
  gcd : Bool
  ts : List (Str × List (Str × D))
/-- a dict of the module with keys that are texts -/
def TbK (K : PySem.W.Frag) (w : World) (a : Addr) (kvs : List (Str × D)) : Prop := ∃ es n, K.lookup a = some ⟨.type "dict", none, .dict es n, #[]⟩ ∧ PySem.W.KeysLit w.params es.toList ∧ (a == sysModules) = false ∧
  ∀ x, (∀ d, kvs.lookup x = some d → ∃ u v, PySem.W.nsIn K a x = some (some u) ∧ RelV v u ∧ ∀ ξ ρ H, Rp ⟨K, ξ⟩ ρ H v d) ∧ (kvs.lookup x = none → PySem.W.nsIn K a x = some none)
abbrev Fn := Nat → List D → Sto → R D
/-- what a def's number promises -/
def spF (K : PySem.W.Frag) (F : Fn) (id np : Nat) : List V → Hp → VK → Prop := fun vs H Q => vs.length = np ∧ ∃ ξ ρ st ds, Rps ⟨K, ξ⟩ ρ H vs ds ∧ Hr ⟨K, ξ⟩ ρ H st ∧
  (F id ds st).wp fun d st' => ∀ ρ' H' v, Xt ρ H ρ' H' → Hr ⟨K, ξ⟩ ρ' H' st' → Rp ⟨K, ξ⟩ ρ' H' v d → Q v H'
structure Wf (X : Cx) (F : Fn) (e : Fi) : Prop where
  ex : ∃ (f : Addr) (fd : FuncData) (ps : List Str) (k : Nat), X.mg e.nm = some (.ref f) ∧ PySem.W.keepIn X.K (.ref f) = true ∧ Room k X.A ∧ Fg X.prog X.w X.K X.mg X.base k f fd ps (spF X.K F e.id ps.length) ∧ ps.length = e.arr.length ∧
    ∀ (s : Shared) (us ws : List Value), X.K.In s.heap → us.length = e.np → ws.length = e.kw.length → ∃ zs, BindsTo s fd ⟨us, e.kw.zip ws⟩ (ps.zip zs) ∧
      Paired (fun (a : Src) (z : Value) => match a with | .at i => (us ++ ws)[i]? = some z | .int i => ∃ t, z = .int i t) e.arr zs
def blts : List (Str × Value) := [("len", .builtin "len"), ("isinstance", .builtin "isinstance"), ("all", .builtin "all"), ("any", .builtin "any"), ("abs", .builtin "abs"), ("max", .builtin "max"), ("min", .builtin "min"), ("divmod", .builtin "divmod"),
  ("repr", .builtin "repr"), ("sum", .builtin "sum"), ("sorted", .builtin "sorted"), ("int", .type "int"), ("bool", .type "bool"), ("str", .type "str"), ("tuple", .type "tuple"), ("list", .type "list"), ("dict", .type "dict"), ("set", .type "set"), ("range", .type "range"), ("zip", .type "zip"), ("enumerate", .type "enumerate")]
structure Wd (X : Cx) (G : Gi) (F : Fn) : Prop where
  gq : Gq X.A
  room : Room 1 X.A
  fs : ∀ e ∈ G.fs, Wf X F e
  bl : ∀ p ∈ blts, X.mg p.1 = none
  cs : ∀ p ∈ G.cs, ∃ u v, X.mg p.1 = some u ∧ RelV v u ∧ ∀ ξ ρ H, Rp (X.kx ξ) ρ H v p.2
  gcd : G.gcd = true → X.mg "gcd" = some (.builtin "math.gcd")
  tb : ∀ t ∈ G.ts, ∃ a, X.mg t.1 = some (.ref a) ∧ TbK X.K X.w a t.2
/-! ## what it means that a piece of text does this -/
def SE (X : Cx) (e : Expr) (m : ME) : Prop := ∀ (ξ ρ : List Addr) (H : Hp) (σ : L2.St) (env : Ev) (st : Sto) (Q : VK), Er (X.kx ξ) ρ H σ env → Hr (X.kx ξ) ρ H st →
  (m env st).wp (fun d st' => ∀ ρ' H' v, Xt ρ H ρ' H' → Hr (X.kx ξ) ρ' H' st' → Rp (X.kx ξ) ρ' H' v d → Q v H') → RE X e σ H Q
def ST (X : Cx) (e : Expr) (m : MT) : Prop := ∀ (ξ ρ : List Addr) (H : Hp) (σ : L2.St) (env : Ev) (st : Sto) (Q : Bool → Hp → Prop), Er (X.kx ξ) ρ H σ env → Hr (X.kx ξ) ρ H st →
  (m env st).wp (fun b st' => ∀ ρ' H', Xt ρ H ρ' H' → Hr (X.kx ξ) ρ' H' st' → Q b H') → RT X e σ H Q
def SA (X : Cx) (es : List Expr) (m : MA) : Prop := ∀ (ξ ρ : List Addr) (H : Hp) (σ : L2.St) (env : Ev) (st : Sto) (Q : List V → Hp → Prop), Er (X.kx ξ) ρ H σ env → Hr (X.kx ξ) ρ H st →
  (m env st).wp (fun ds st' => ∀ ρ' H' vs, Xt ρ H ρ' H' → Hr (X.kx ξ) ρ' H' st' → Rps (X.kx ξ) ρ' H' vs ds → vs.length = es.length → Q vs H') → RA X es σ H Q
/-! ## combinators -/
def mCst (d : D) : ME := fun _ st => .ok d st
def mVar (i : Nat) : ME := fun env st => match env[i]? with
  | some (some d) => .ok d st
  | _ => .bad
abbrev Op1 := D → Sto → R D
abbrev Op2 := D → D → Sto → R D
def mOp2 (f : Op2) (a b : ME) : ME := fun env st => (a env st).bd fun x s => (b env s).bd fun y s' => f x y s'
def mOp1 (f : Op1) (a : ME) : ME := fun env st => (a env st).bd fun x s => f x s
def mNil : MA := fun _ st => .ok [] st
def mCons (a : ME) (r : MA) : MA := fun env st => (a env st).bd fun x s => (r env s).bd fun xs s' => .ok (x :: xs) s'
def mOpN (f : List D → Sto → R D) (a : MA) : ME := fun env st => (a env st).bd fun xs s => f xs s
def mIf (c : MT) (a b : ME) : ME := fun env st => (c env st).bd fun k s => if k then a env s else b env s
/-- the truth of a value -/
def truD (x : D) (s : Sto) : Option Bool := match x with
  | .non => some false
  | .bl k => some k
  | .int i => some (i != 0)
  | .str y => if y.length ≤ sizeLine then some ((y.length : Int) != 0) else none
  | .tup ds => some (!ds.isEmpty)
  | .lst ds => some (!ds.isEmpty)
  | .ro ds => some (!ds.isEmpty)
  | .ref n => match s[n]? with
    | some (.lst ds) => some (!ds.isEmpty)
    | _ => none
  | _ => none
def mTest (a : ME) : MT := fun env st => (a env st).bd fun x s => match truD x s with
  | some k => .ok k s
  | none => .bad
def mNotT (a : MT) : MT := fun env st => (a env st).bd fun k s => .ok (!k) s
def mAndT (a b : MT) : MT := fun env st => (a env st).bd fun k s => if k then b env s else .ok false s
def mOrT (a b : MT) : MT := fun env st => (a env st).bd fun k s => if k then .ok true s else b env s
def mAndV (a b : ME) : ME := fun env st => (a env st).bd fun x s => match x with
  | .bl true => b env s
  | .bl false => .ok (.bl false) s
  | _ => .bad
def mOrV (a b : ME) : ME := fun env st => (a env st).bd fun x s => match x with
  | .bl false => b env s
  | .bl true => .ok (.bl true) s
  | _ => .bad
def mNotV (a : ME) : ME := fun env st => (a env st).bd fun x s => match x with
  | .bl k => .ok (.bl (!k)) s
  | _ => .bad
section
variable {X : Cx} {c : Ci} {G : Gi} {F : Fn}
theorem se_cst {e : Expr} {d : D} {v : V} (h : PE X e (tC v)) (r : ∀ ξ ρ H, Rp (X.kx ξ) ρ H v d) : SE X e (mCst d) := fun ξ ρ H σ env st Q _ hr w => h.re (w ρ H v (.refl _ _) hr (r _ _ _))
theorem se_var {i : Nat} {x : Str} {pos : Pos} (g : Gd X c) (hi : c.N[i]? = some x) (hv : Vis c.sc x) (hd : (x == ("__debug__" : Str)) = false) (hcd : (x == ("__classdict__" : Str)) = false) : SE X (.Name x pos) (mVar i) := fun ξ ρ H σ env st Q he hr w => by
  refine (pe_var (by rw [g.hN]; exact hi) (by rw [g.hsc]; exact hv) hd hcd).re ?_
  unfold mVar at w
  split at w
  · rename_i d e
    obtain ⟨v, h1, h2⟩ := he.at_ i d e
    exact ⟨v, h1, w ρ H v (.refl _ _) hr h2⟩
  · exact w.elim
/-- two parts, one behind the other -/
theorem two {a b : Expr} {ma mb : ME} (ha : SE X a ma) (hb : SE X b mb) {f : Op2} {ξ ρ : List Addr} {H : Hp} {σ : L2.St} {env : Ev} {st : Sto} {Q : D → Sto → Prop} {Z : V → V → Hp → Prop} (he : Er (X.kx ξ) ρ H σ env) (hr : Hr (X.kx ξ) ρ H st)
    (w : (mOp2 f ma mb env st).wp Q)
    (k : ∀ x y s ρ' H' v u, Xt ρ H ρ' H' → Hr (X.kx ξ) ρ' H' s → Rp (X.kx ξ) ρ' H' v x → Rp (X.kx ξ) ρ' H' u y → (f x y s).wp Q → Z v u H') : RE X a σ H fun v H1 => RE X b σ H1 fun u H2 => Z v u H2 := by
  unfold mOp2 at w
  refine ha ξ ρ H σ env st _ he hr (R.wp_mono (R.wp_bd.mp w) fun x s w1 ρ1 H1 v x1 hr1 r1 => ?_)
  refine hb ξ ρ1 H1 σ env s _ (he.xt x1) hr1 (R.wp_mono (R.wp_bd.mp w1) fun y s2 w2 ρ2 H2 u x2 hr2 r2 => ?_)
  exact k x y s2 ρ2 H2 v u (x1.trans x2) hr2 (r1.xt x2) r2 w2
/-- an operation on two values, by the layer's rule -/
def Do2 (X : Cx) (f : Op2) (r : R2) : Prop := ∀ (x y : D) (s : Sto) (ξ ρ : List Addr) (H : Hp) (v u : V) (Q : VK), Hr (X.kx ξ) ρ H s → Rp (X.kx ξ) ρ H v x → Rp (X.kx ξ) ρ H u y →
  (f x y s).wp (fun d s' => ∀ ρ' H' v', Xt ρ H ρ' H' → Hr (X.kx ξ) ρ' H' s' → Rp (X.kx ξ) ρ' H' v' d → Q v' H') → r v u H Q
def Do1 (X : Cx) (f : Op1) (r : V → Hp → VK → Prop) : Prop := ∀ (x : D) (s : Sto) (ξ ρ : List Addr) (H : Hp) (v : V) (Q : VK), Hr (X.kx ξ) ρ H s → Rp (X.kx ξ) ρ H v x →
  (f x s).wp (fun d s' => ∀ ρ' H' v', Xt ρ H ρ' H' → Hr (X.kx ξ) ρ' H' s' → Rp (X.kx ξ) ρ' H' v' d → Q v' H') → r v H Q
def DoN (X : Cx) (f : List D → Sto → R D) (r : List V → Hp → VK → Prop) : Prop := ∀ (xs : List D) (s : Sto) (ξ ρ : List Addr) (H : Hp) (vs : List V) (Q : VK), Hr (X.kx ξ) ρ H s → Rps (X.kx ξ) ρ H vs xs →
  (f xs s).wp (fun d s' => ∀ ρ' H' v', Xt ρ H ρ' H' → Hr (X.kx ξ) ρ' H' s' → Rp (X.kx ξ) ρ' H' v' d → Q v' H') → r vs H Q
theorem se_op2 {a b : Expr} {ma mb : ME} {f : Op2} {r : R2} {e : Expr} (he : PE X e (tOp r (RE X a) (RE X b))) (ha : SE X a ma) (hb : SE X b mb) (hd : Do2 X f r) : SE X e (mOp2 f ma mb) := fun ξ ρ H σ env st Q e0 hr w =>
  he.re (two ha hb e0 hr w fun x y s ρ' H' v u x1 h1 r1 r2 w1 => hd x y s ξ ρ' H' v u Q h1 r1 r2 (R.wp_mono w1 fun d s' k ρ2 H2 v' x2 => k ρ2 H2 v' (x1.trans x2)))
theorem se_op1 {a : Expr} {ma : ME} {f : Op1} {r : V → Hp → VK → Prop} {e : Expr} (he : PE X e (tUn r (RE X a))) (ha : SE X a ma) (hd : Do1 X f r) : SE X e (mOp1 f ma) := fun ξ ρ H σ env st Q e0 hr w =>
  he.re (ha ξ ρ H σ env st _ e0 hr (R.wp_mono (R.wp_bd.mp w) fun x s w1 ρ1 H1 v x1 h1 r1 => hd x s ξ ρ1 H1 v Q h1 r1 (R.wp_mono w1 fun d s' k ρ2 H2 v' x2 => k ρ2 H2 v' (x1.trans x2))))
theorem se_opN {es : List Expr} {ma : MA} {f : List D → Sto → R D} {r : List V → Hp → VK → Prop} {e : Expr} (he : PE X e (tCB r (RA X es))) (ha : SA X es ma) (hd : DoN X f r) : SE X e (mOpN f ma) := fun ξ ρ H σ env st Q e0 hr w =>
  he.re (ha ξ ρ H σ env st _ e0 hr (R.wp_mono (R.wp_bd.mp w) fun x s w1 ρ1 H1 v x1 h1 r1 _ => hd x s ξ ρ1 H1 v Q h1 r1 (R.wp_mono w1 fun d s' k ρ2 H2 v' x2 => k ρ2 H2 v' (x1.trans x2))))
/-! ### arguments -/
def plainArg : Expr → Bool
  | .Starred .. => false
  | _ => true
theorem star_cons {e : Expr} {es : List Expr} {env : Env} (h : plainArg e = true) : starEach (e :: es) env = (false, eval e env) :: starEach es env := by
  cases e <;> first | rfl | exact nomatch h
theorem star_any {env : Env} {pos : Pos} : ∀ {es : List Expr}, es.all plainArg = true → (backTo pos (starEach es env)).any (·.1) = false
  | [], _ => rfl
  | e :: es, h => by
    rw [List.all_cons, Bool.and_eq_true] at h
    rw [star_cons h.1]
    exact star_any h.2
theorem sa_nil : SA X [] mNil := fun ξ ρ H σ env st Q _ hr w => pa_nil.ra (w ρ H [] (.refl _ _) hr .nil rfl)
theorem sa_cons {e : Expr} {es : List Expr} {ma : ME} {mr : MA} (hp : plainArg e = true) (ha : SE X e ma) (hr : SA X es mr) : SA X (e :: es) (mCons ma mr) := fun ξ ρ H σ env st Q e0 h w => by
  refine (pa_cons pe_re pa_ra (star_cons hp)).ra ?_
  refine ha ξ ρ H σ env st _ e0 h (R.wp_mono (R.wp_bd.mp w) fun x s w1 ρ1 H1 v x1 h1 r1 => ?_)
  refine hr ξ ρ1 H1 σ env s _ (e0.xt x1) h1 (R.wp_mono (R.wp_bd.mp w1) fun xs s2 w2 ρ2 H2 vs x2 h2 r2 hl => ?_)
  exact w2 ρ2 H2 (v :: vs) (x1.trans x2) h2 (.cons (r1.xt x2) r2) (by rw [List.length_cons, List.length_cons, hl])
/-! ### tests -/
theorem Rps.isEmpty {K : Kx} {ρ : List Addr} {H : Hp} {vs : List V} {ds : List D} (h : Rps K ρ H vs ds) : vs.isEmpty = ds.isEmpty := by cases h <;> rfl
theorem truD_ok {K : Kx} {ρ : List Addr} {H : Hp} {v : V} {x : D} {s : Sto} {k : Bool} (hr : Hr K ρ H s) (r : Rp K ρ H v x) (h : truD x s = some k) : TruV K.K v H k := by
  cases r with
  | non => exact (Option.some.inj h).symm
  | bl b => exact (Option.some.inj h).symm
  | int i => exact (Option.some.inj h).symm
  | str y =>
    have h' : (if y.length ≤ sizeLine then some ((y.length : Int) != 0) else none) = some k := h
    by_cases z : y.length ≤ sizeLine
    · rw [if_pos z] at h'
      exact ⟨z, (Option.some.inj h').symm⟩
    · rw [if_neg z] at h'
      cases h'
  | tup f z rs => exact .inr (.inl ⟨_, f.sq, by rw [rs.isEmpty]; exact (Option.some.inj h).symm⟩)
  | lst n f z rs => exact .inl ⟨_, SqL.of f, by rw [rs.isEmpty]; exact (Option.some.inj h).symm⟩
  | ro f z rs => exact .inl ⟨_, f.sq, by rw [rs.isEmpty]; exact (Option.some.inj h).symm⟩
  | ref hn =>
    rename_i a n
    have h' : (match s[n]? with | some (.lst ds) => some (!ds.isEmpty) | _ => none) = some k := h
    cases e : s[n]? with
    | none => rw [e] at h'; cases h'
    | some o =>
      rw [e] at h'
      cases o with
      | lst ds =>
        obtain ⟨xs, h1, h2, h3⟩ := hr.ob n a _ hn e
        exact .inl ⟨xs, SqL.of h1, by rw [h3.isEmpty]; exact (Option.some.inj h').symm⟩
      | dct => cases h'
      | ins => cases h'
  | dct n h1 => cases h
theorem st_val {e : Expr} {m : ME} (hw : ∀ whole env, isTrue e env whole = (do let v ← whole; standAt e.pos; holding [v] (truthy v))) (h : SE X e m) : ST X e (mTest m) := fun ξ ρ H σ env st Q e0 hr w => by
  refine (pt_truth pe_re (fun whole => hw whole X.env)).rt ?_
  refine h ξ ρ H σ env st _ e0 hr (R.wp_mono (R.wp_bd.mp w) fun x s w1 ρ1 H1 v x1 h1 r1 => ?_)
  split at w1
  · rename_i k e
    exact ⟨k, truD_ok h1 r1 e, w1 ρ1 H1 x1 h1⟩
  · exact w1.elim
theorem st_not {a : Expr} {m : MT} {pos : Pos} (h : ST X a m) : ST X (.UnaryOp .Not a pos) (mNotT m) := fun ξ ρ H σ env st Q e0 hr w =>
  (pt_not pt_rt).rt (h ξ ρ H σ env st _ e0 hr (R.wp_mono (R.wp_bd.mp w) fun _ _ w1 ρ1 H1 x1 h1 => w1 ρ1 H1 x1 h1))
theorem wp_test {m : ME} {env : Ev} {st : Sto} {Q : Bool → Sto → Prop} (w : (mTest m env st).wp Q) : (m env st).wp fun x s => ∀ b, x = .bl b → Q b s := by
  refine R.wp_mono (R.wp_bd.mp w) fun x s w1 b e => ?_
  subst e
  exact w1
/-- what comes to a truth is a test by its truth -/
theorem st_of {e : Expr} {m : ME} {t : TE} (hp : PT X e (tTest t)) (ht : ∀ (ξ ρ : List Addr) (H : Hp) (σ : L2.St) (env : Ev) (st : Sto) (Q : VK), Er (X.kx ξ) ρ H σ env → Hr (X.kx ξ) ρ H st →
    (m env st).wp (fun d st' => ∀ ρ' H' v, Xt ρ H ρ' H' → Hr (X.kx ξ) ρ' H' st' → Rp (X.kx ξ) ρ' H' v d → Q v H') → t σ H Q) (hb : ∀ env st x s, m env st = .ok x s → ∃ b, x = .bl b) : ST X e (mTest m) := fun ξ ρ H σ env st Q e0 hr w => by
  refine hp.rt (ht ξ ρ H σ env st _ e0 hr ?_)
  cases em : m env st with
  | ok x s =>
    obtain ⟨b, rfl⟩ := hb env st x s em
    unfold mTest at w
    rw [em] at w
    intro ρ' H' v x1 h1 r1
    cases r1
    exact ⟨b, rfl, w ρ' H' x1 h1⟩
  | ex => unfold mTest at w; rw [em] at w; exact w
  | bad => unfold mTest at w; rw [em] at w; exact w
end
/-! ### and, or -/
def RW (X : Cx) (e : Expr) : TT := fun σ H Q => ∀ (whole : Sem Value) (pins : List (Addr × Obj)) (s : Shared), Inv X pins σ H s → wpAny (model X.prog X.w) X.A (isTrue e X.env whole) (TP X pins σ Q) X.xe s
theorem pw_rw {X : Cx} {e : Expr} : PW X e (RW X e) := ⟨fun whole pins s _ _ _ I h => h whole pins s I⟩
theorem _root_.L2.PW.rw {X : Cx} {e : Expr} {t : TT} (h : PW X e t) {σ : L2.St} {H : Hp} {Q : Bool → Hp → Prop} (q : t σ H Q) : RW X e σ H Q := fun whole pins s I => h.run whole pins s σ H Q I q
def SW (X : Cx) (e : Expr) (m : MT) : Prop := ∀ (ξ ρ : List Addr) (H : Hp) (σ : L2.St) (env : Ev) (st : Sto) (Q : Bool → Hp → Prop), Er (X.kx ξ) ρ H σ env → Hr (X.kx ξ) ρ H st →
  (m env st).wp (fun b st' => ∀ ρ' H', Xt ρ H ρ' H' → Hr (X.kx ξ) ρ' H' st' → Q b H') → RW X e σ H Q
section
variable {X : Cx} {pos : Pos} {a b : Expr} {rest : List Expr} {ma mb : MT} {va vb : ME}
theorem SW.st (h : SW X a ma) : ST X a ma := fun ξ ρ H σ env st Q e0 hr w pins s I => h ξ ρ H σ env st Q e0 hr w _ pins s I
theorem sw_and1 (ha : ST X a ma) : SW X (.BoolOp .And [a] pos) ma := fun ξ ρ H σ env st Q e0 hr w => (pw_and1 pt_rt).rw (ha ξ ρ H σ env st Q e0 hr w)
theorem sw_or1 (ha : ST X a ma) : SW X (.BoolOp .Or [a] pos) ma := fun ξ ρ H σ env st Q e0 hr w => (pw_or1 pt_rt).rw (ha ξ ρ H σ env st Q e0 hr w)
theorem sw_and (ha : ST X a ma) (hb : SW X (.BoolOp .And (b :: rest) pos) mb) : SW X (.BoolOp .And (a :: b :: rest) pos) (mAndT ma mb) := fun ξ ρ H σ env st Q e0 hr w => by
  refine (pw_and pt_rt pw_rw).rw (ha ξ ρ H σ env st _ e0 hr (R.wp_mono (R.wp_bd.mp w) fun k s w1 ρ1 H1 x1 h1 => ?_))
  cases k with
  | true =>
    refine iteT (hb ξ ρ1 H1 σ env s Q (e0.xt x1) h1 (R.wp_mono w1 fun b s2 w2 ρ2 H2 x2 h2 => w2 ρ2 H2 (x1.trans x2) h2))
  | false => exact iteF (w1 ρ1 H1 x1 h1)
theorem sw_or (ha : ST X a ma) (hb : SW X (.BoolOp .Or (b :: rest) pos) mb) : SW X (.BoolOp .Or (a :: b :: rest) pos) (mOrT ma mb) := fun ξ ρ H σ env st Q e0 hr w => by
  refine (pw_or pt_rt pw_rw).rw (ha ξ ρ H σ env st _ e0 hr (R.wp_mono (R.wp_bd.mp w) fun k s w1 ρ1 H1 x1 h1 => ?_))
  cases k with
  | true => exact iteT (w1 ρ1 H1 x1 h1)
  | false =>
    refine iteF (hb ξ ρ1 H1 σ env s Q (e0.xt x1) h1 (R.wp_mono w1 fun b s2 w2 ρ2 H2 x2 h2 => w2 ρ2 H2 (x1.trans x2) h2))
theorem se_one {op : BoolOp} (ha : SE X a va) : SE X (.BoolOp op [a] pos) va := fun ξ ρ H σ env st Q e0 hr w => (pe_one pe_re).re (ha ξ ρ H σ env st Q e0 hr w)
theorem se_and (ha : SE X a va) (hb : SE X (.BoolOp .And (b :: rest) pos) vb) : SE X (.BoolOp .And (a :: b :: rest) pos) (mAndV va vb) := fun ξ ρ H σ env st Q e0 hr w => by
  refine (pe_and pe_re pe_re).re (ha ξ ρ H σ env st _ e0 hr (R.wp_mono (R.wp_bd.mp w) fun x s w1 ρ1 H1 v x1 h1 r1 => ?_))
  cases r1 with
  | bl k =>
    cases k with
    | true => exact ⟨true, rfl, iteT (hb ξ ρ1 H1 σ env s Q (e0.xt x1) h1 (R.wp_mono w1 fun b s2 w2 ρ2 H2 v x2 h2 => w2 ρ2 H2 v (x1.trans x2) h2))⟩
    | false => exact ⟨false, rfl, iteF (w1 ρ1 H1 _ x1 h1 (.bl false))⟩
  | _ => exact w1.elim
theorem se_or (ha : SE X a va) (hb : SE X (.BoolOp .Or (b :: rest) pos) vb) : SE X (.BoolOp .Or (a :: b :: rest) pos) (mOrV va vb) := fun ξ ρ H σ env st Q e0 hr w => by
  refine (pe_or pe_re pe_re).re (ha ξ ρ H σ env st _ e0 hr (R.wp_mono (R.wp_bd.mp w) fun x s w1 ρ1 H1 v x1 h1 r1 => ?_))
  cases r1 with
  | bl k =>
    cases k with
    | false => exact ⟨false, rfl, iteF (hb ξ ρ1 H1 σ env s Q (e0.xt x1) h1 (R.wp_mono w1 fun b s2 w2 ρ2 H2 v x2 h2 => w2 ρ2 H2 v (x1.trans x2) h2))⟩
    | true => exact ⟨true, rfl, iteT (w1 ρ1 H1 _ x1 h1 (.bl true))⟩
  | _ => exact w1.elim
theorem se_not (ha : SE X a va) : SE X (.UnaryOp .Not a pos) (mNotV va) := fun ξ ρ H σ env st Q e0 hr w => by
  refine (pe_not pe_re).re (ha ξ ρ H σ env st _ e0 hr (R.wp_mono (R.wp_bd.mp w) fun x s w1 ρ1 H1 v x1 h1 r1 => ?_))
  cases r1 with
  | bl k => exact ⟨k, rfl, w1 ρ1 H1 _ x1 h1 (.bl _)⟩
  | _ => exact w1.elim
theorem se_if {t : Expr} {mt : MT} (ht : ST X t mt) (ha : SE X a va) (hb : SE X b vb) : SE X (.IfExp t a b pos) (mIf mt va vb) := fun ξ ρ H σ env st Q e0 hr w => by
  refine (pe_ifExp pt_rt pe_re pe_re).re (ht ξ ρ H σ env st _ e0 hr (R.wp_mono (R.wp_bd.mp w) fun k s w1 ρ1 H1 x1 h1 => ?_))
  cases k with
  | true => exact iteT (ha ξ ρ1 H1 σ env s Q (e0.xt x1) h1 (R.wp_mono w1 fun b s2 w2 ρ2 H2 v x2 h2 => w2 ρ2 H2 v (x1.trans x2) h2))
  | false => exact iteF (hb ξ ρ1 H1 σ env s Q (e0.xt x1) h1 (R.wp_mono w1 fun b s2 w2 ρ2 H2 v x2 h2 => w2 ρ2 H2 v (x1.trans x2) h2))
end
end Rf
set_option maxHeartbeats 4000000
namespace Rf
open PySem PySem.Spec L2
open PyProof.Rows hiding St
/-! ## operations by values -/
section
variable {X : Cx}
theorem OpR.ors {f : Value → Value → Sem Value} {ι : Type} {r : ι → R2} (h : ∀ i, OpR X f (r i)) : OpR X f (fun x y H Q => ∃ i, r i x y H Q) := fun pins s σ H x y v u Q I rx ry ⟨i, q⟩ => h i pins s σ H x y v u Q I rx ry q
/-- the list that lies there, if it is one of its own -/
def lstD (x : D) (s : Sto) : Option (List D) := match x with
  | .lst ds => some ds
  | .ref n => match s[n]? with
    | some (.lst ds) => some ds
    | _ => none
  | _ => none
theorem lstD_ok {K : Kx} {ρ : List Addr} {H : Hp} {v : V} {x : D} {s : Sto} {ds : List D} (hr : Hr K ρ H s) (r : Rp K ρ H v x) (h : lstD x s = some ds) : ∃ a xs, v = .ref a ∧ H a = some (.lst xs) ∧ xs.length ≤ sizeLine ∧ Rps K ρ H xs ds := by
  cases r with
  | lst n f z rs => cases h; exact ⟨_, _, rfl, f, z, rs⟩
  | ref hn =>
    rename_i a n
    have h' : (match s[n]? with | some (.lst ds) => some ds | _ => none) = some ds := h
    cases e : s[n]? with
    | none => rw [e] at h'; cases h'
    | some o =>
      rw [e] at h'
      cases o with
      | lst es =>
        cases h'
        obtain ⟨xs, h1, h2, h3⟩ := hr.ob n a _ hn e
        exact ⟨a, xs, rfl, h1, h2, h3⟩
      | dct => cases h'
      | ins => cases h'
  | _ => cases h
/-- a list that may be read -/
def seqD (x : D) (s : Sto) : Option (List D) := match x with
  | .ro ds => some ds
  | _ => lstD x s
theorem seqD_ok {K : Kx} {ρ : List Addr} {H : Hp} {v : V} {x : D} {s : Sto} {ds : List D} (hr : Hr K ρ H s) (r : Rp K ρ H v x) (h : seqD x s = some ds) : ∃ a xs, v = .ref a ∧ SqL K.K H a xs ∧ xs.length ≤ sizeLine ∧ Rps K ρ H xs ds := by
  by_cases z : ∃ es, x = .ro es
  · obtain ⟨es, rfl⟩ := z
    cases h
    cases r with
    | ro f z rs => exact ⟨_, _, rfl, f.sq, z, rs⟩
  · have h' : lstD x s = some ds := by
      unfold seqD at h
      split at h
      · rename_i es
        exact absurd ⟨es, rfl⟩ z
      · exact h
    obtain ⟨a, xs, h1, h2, h3, h4⟩ := lstD_ok hr r h'
    exact ⟨a, xs, h1, SqL.of h2, h3, h4⟩
/-- a new list, to be written or not -/
def newL (m : Bool) (ds : List D) (s : Sto) : R D := if m then .ok (.ref s.length) (s ++ [.lst ds]) else .ok (.lst ds) s
theorem newL_ok {K : Kx} {ρ : List Addr} {H : Hp} {s : Sto} {m : Bool} {ds : List D} {xs : List V} {Q : VK} {p : Addr} (hr : Hr K ρ H s) (hp : H p = none) (hz : xs.length ≤ sizeLine) (r : Rps K ρ H xs ds)
    (w : (newL m ds s).wp fun d s' => ∀ ρ' H' v', Xt ρ H ρ' H' → Hr K ρ' H' s' → Rp K ρ' H' v' d → Q v' H') : Q (.ref p) (upd H p (.lst xs)) := by
  unfold newL at w
  cases m with
  | false =>
    exact w ρ _ _ (.same (same_upd hp)) (hr.same (same_upd hp)) (.lst (hr.new hp) upd_same hz (Rps.xt (.same (same_upd hp)) _ _ r))
  | true =>
    obtain ⟨h1, h2⟩ := hr.push (o := .lst ds) (u := .lst xs) hp (fun ρ' H' x e => ⟨xs, e, hz, Rps.xt x _ _ r⟩)
    refine w _ _ _ h2 h1 (.ref ?_)
    rw [← hr.len]
    simp
theorem newT_ok {K : Kx} {ρ : List Addr} {H : Hp} {s : Sto} {ds : List D} {xs : List V} {Q : VK} {p : Addr} (hr : Hr K ρ H s) (hp : H p = none) (hz : xs.length ≤ sizeLine) (r : Rps K ρ H xs ds)
    (w : ∀ ρ' H' v', Xt ρ H ρ' H' → Hr K ρ' H' s → Rp K ρ' H' v' (.tup ds) → Q v' H') : Q (.ref p) (upd H p (.tup xs)) :=
  w ρ _ _ (.same (same_upd hp)) (hr.same (same_upd hp)) (.tup (.inl ⟨hr.new hp, .inl upd_same⟩) hz (Rps.xt (.same (same_upd hp)) _ _ r))
/-! ### + -/
def opAdd (m : Bool) : Op2 := fun x y s => match x, y with
  | .int i, .int j => .ok (.int (i + j)) s
  | .str a, .str b => if a.length + b.length ≤ sizeLine then .ok (.str (a ++ b)) s else .bad
  | .tup a, .tup b => if a.length + b.length ≤ sizeLine then .ok (.tup (a ++ b)) s else .bad
  | _, _ => match lstD x s, lstD y s with
    | some a, some b => if a.length + b.length ≤ sizeLine then newL m (a ++ b) s else .bad
    | _, _ => .bad
def rAddA (K : PySem.W.Frag) : R2 := fun x y H Q => (rI0 (fun i j => .int (i + j)) x y H Q ∨ (∃ i j, x = .str i ∧ y = .str j ∧ i.length + j.length ≤ sizeLine ∧ Q (.str (i ++ j)) H)) ∨ (rCatA K x y H Q ∨ rCat x y H Q)
theorem op_addA : OpR X (binaryOp .Add) (rAddA X.K) := OpR.or (OpR.or op_add op_add_str) (OpR.or op_catA op_cat)
theorem do_add (m : Bool) : Do2 X (opAdd m) (rAddA X.K) := by
  intro x y s ξ ρ H v u Q hr r1 r2 w
  have lists : (match lstD x s, lstD y s with
    | some a, some b => if a.length + b.length ≤ sizeLine then newL m (a ++ b) s else .bad
    | _, _ => (.bad : R D)).wp (fun d s' => ∀ ρ' H' v', Xt ρ H ρ' H' → Hr (X.kx ξ) ρ' H' s' → Rp (X.kx ξ) ρ' H' v' d → Q v' H') → rAddA X.K v u H Q := by
    intro w
    split at w
    · rename_i a b e1 e2
      obtain ⟨p, xs, rfl, h1, z1, q1⟩ := lstD_ok hr r1 e1
      obtain ⟨p', ys, rfl, h2, z2, q2⟩ := lstD_ok hr r2 e2
      split at w
      · rename_i z
        rw [← q1.length, ← q2.length] at z
        exact .inr (.inr ⟨p, p', xs, ys, rfl, rfl, h1, h2, z, fun q hq => newL_ok hr hq (by simpa using z) (q1.app q2) w⟩)
      · exact w.elim
    · exact w.elim
  cases r1 with
  | int i =>
    cases r2 with
    | int j => exact .inl (.inl ⟨i, j, rfl, rfl, w ρ H _ (.refl _ _) hr (.int _)⟩)
    | _ => exact lists w
  | str a =>
    cases r2 with
    | str b =>
      have w' : (if a.length + b.length ≤ sizeLine then R.ok (D.str (a ++ b)) s else .bad).wp _ := w
      by_cases z : a.length + b.length ≤ sizeLine
      · rw [if_pos z] at w'
        exact .inl (.inr ⟨a, b, rfl, rfl, z, w' ρ H _ (.refl _ _) hr (.str _)⟩)
      · rw [if_neg z] at w'
        exact w'.elim
    | _ => exact lists w
  | tup f z1 q1 =>
    cases r2 with
    | tup g z2 q2 =>
      rename_i p xs a p' ys b
      have w' : (if a.length + b.length ≤ sizeLine then R.ok (D.tup (a ++ b)) s else .bad).wp _ := w
      by_cases z : a.length + b.length ≤ sizeLine
      · rw [if_pos z] at w'
        have z' := z
        rw [← q1.length, ← q2.length] at z'
        refine .inr (.inl ⟨p, p', xs, ys, rfl, rfl, f.sq, g.sq, z', fun e => ?_, fun _ e => ?_, fun _ _ q hq => newT_ok hr hq (by simpa using z') (q1.app q2) w'⟩)
        · subst e
          cases q1
          exact w' ρ H _ (.refl _ _) hr (.tup g z2 q2)
        · subst e
          cases q2
          rw [List.append_nil] at w'
          exact w' ρ H _ (.refl _ _) hr (.tup f z1 q1)
      · rw [if_neg z] at w'
        exact w'.elim
    | _ => exact lists w
  | _ => exact lists w
/-! ### ints -/
theorem wp_ok {α : Type} {a : α} {s : Sto} {Q : α → Sto → Prop} (h : (R.ok a s).wp Q) : Q a s := h
/-- two ints, under a test -/
def opI2 (t : Int → Int → Bool) (g : Int → Int → D) : Op2 := fun x y s => match x, y with
  | .int i, .int j => if t i j then .ok (g i j) s else .bad
  | _, _ => .bad
theorem do_I2 {t : Int → Int → Bool} {g : Int → Int → D} {C : Int → Int → Prop} {gv : Int → Int → V} (hc : ∀ i j, t i j = true → C i j) (hg : ∀ ξ ρ H i j, Rp (X.kx ξ) ρ H (gv i j) (g i j)) : Do2 X (opI2 t g) (rI C gv) := by
  intro x y s ξ ρ H v u Q hr r1 r2 w
  cases r1 with
  | int i =>
    cases r2 with
    | int j =>
      have w' : (if t i j = true then R.ok (g i j) s else .bad).wp _ := w
      by_cases z : t i j = true
      · rw [if_pos z] at w'
        exact ⟨i, j, rfl, rfl, hc i j z, w' ρ H _ (.refl _ _) hr (hg ξ ρ H i j)⟩
      · rw [if_neg z] at w'
        exact w'.elim
    | _ => exact w.elim
  | _ => exact w.elim
theorem op_of0 {f : Value → Value → Sem Value} {g : Int → Int → V} (h : OpR X f (rI0 g)) : OpR X f (rI (fun _ _ => True) g) := fun pins s σ H x y v u Q I rx ry ⟨i, j, e1, e2, _, q⟩ => h pins s σ H x y v u Q I rx ry ⟨i, j, e1, e2, q⟩
def yes2 (_ _ : Int) : Bool := true
abbrev opSub : Op2 := opI2 yes2 fun i j => .int (i - j)
def mulB (i j : Int) : Bool := decide (i.natAbs.log2 + j.natAbs.log2 < 1000000)
def divB (_ j : Int) : Bool := decide (j ≠ 0) && decide (j.natAbs.log2 < 9000)
def modB (_ j : Int) : Bool := decide (j ≠ 0)
def powB (i j : Int) : Bool := decide (0 ≤ j) && decide (j ≤ 1000000) && decide (i.natAbs < 2 ^ 64)
abbrev opDiv : Op2 := opI2 divB fun i j => .int (i.fdiv j)
abbrev opMod : Op2 := opI2 modB fun i j => .int (i.fmod j)
abbrev opPow : Op2 := opI2 powB fun i j => .int (i ^ j.toNat)
abbrev opShl : Op2 := opI2 powB fun i j => .int (i * 2 ^ j.toNat)
theorem op_divA : OpR X (binaryOp .FloorDiv) (rI (fun i j => divB i j = true) fun i j => .int (i.fdiv j)) := opI fun i j _ _ _ _ _ hc q => by
  unfold divB at hc
  rw [Bool.and_eq_true] at hc
  exact PyProof.Rows.floordiv_int (of_decide_eq_true hc.1) q (.inl (PyProof.noPylong_of_log2 (of_decide_eq_true hc.2)))
theorem powB_ok {i j : Int} (h : powB i j = true) : CPow i j := by
  unfold powB at h
  simp only [Bool.and_eq_true, decide_eq_true_eq] at h
  exact ⟨h.1.1, h.1.2, h.2⟩
/-! ### * : ints, a tuple by an int, a list by an int -/
theorem tuple_mul_same (l : Addr) (items : Array Value) (n : Nat) (dd : Option Addr) (sl : Array (Option Value)) (x : Int) (u : Tok) (c0 : (decide (x < -(2 ^ 63)) || decide (x ≥ 2 ^ 63)) = false) (c1 : (items.isEmpty || x == 1) = true) :
    Meets (Builtin.«tuple.__mul__» ⟨[.ref l, .int x u], []⟩) (fun _ R s => s.heap.get? l = some { cls := .type "tuple", dict := dd, data := .seq items n, slots := sl } ∧ R (.ok (.ret (Value.ref l))) s) :=
  .of_wp fun prog w A R s h => by
    obtain ⟨hp, g, d, tk, os⟩ := s
    obtain ⟨hl, h⟩ := h
    have f1 := PySem.AutoSeq1.idx_int
    wp_walk using PySem.AutoSeq1.wpAny_loadPart' hl
    refine wpAny_ite_false (decide_eq_false (by rw [c0]; exact Bool.false_ne_true)) ?_
    wp_walk using PySem.AutoSeq1.wpAny_loadPart' hl
    exact ⟨_, rfl, h⟩
theorem tuple_mul_none (l : Addr) (items : Array Value) (n : Nat) (dd : Option Addr) (sl : Array (Option Value)) (x : Int) (u : Tok) (c0 : (decide (x < -(2 ^ 63)) || decide (x ≥ 2 ^ 63)) = false) (c1 : (items.isEmpty || x == 1) = false) (c2 : (decide (x ≤ 0) || items.isEmpty) = true) :
    Meets (Builtin.«tuple.__mul__» ⟨[.ref l, .int x u], []⟩) (fun _ R s => s.heap.get? l = some { cls := .type "tuple", dict := dd, data := .seq items n, slots := sl } ∧
      R (.ok (.ret (Value.ref s.heap.objs.size))) { s with heap := s.heap.push { cls := Value.type "tuple", data := Data.seq #[] }, toks := s.toks }) :=
  .of_wp fun prog w A R s h => by
    obtain ⟨hp, g, d, tk, os⟩ := s
    obtain ⟨hl, h⟩ := h
    have f1 := PySem.AutoSeq1.idx_int
    wp_walk using PySem.AutoSeq1.wpAny_loadPart' hl
    refine wpAny_ite_false (decide_eq_false (by rw [c0]; exact Bool.false_ne_true)) ?_
    wp_walk using PySem.AutoSeq1.wpAny_loadPart' hl
    repeat (first
      | (refine wpAny_ite_true (decide_eq_true c2) ?_; wp_walk using PySem.AutoSeq1.wpAny_loadPart' hl)
      | (refine wpAny_ite_false (decide_eq_false (by decide)) ?_; wp_walk using PySem.AutoSeq1.wpAny_loadPart' hl))
    exact ⟨_, rfl, h⟩
def rRepA (K : PySem.W.Frag) : R2 := fun x y H Q => ∃ l k xs, x = .ref l ∧ y = .int k ∧ SqT K H l xs ∧ k ≤ 1000 ∧ -1000 ≤ k ∧ xs.length ≤ 1000 ∧
  ((xs = [] ∨ k = 1) → Q (.ref l) H) ∧ (xs ≠ [] → k ≠ 1 → ∀ p, H p = none → Q (.ref p) (upd H p (.tup (List.replicate k.toNat xs).flatten)))
theorem op_repA : OpR X (binaryOp .Mult) (rRepA X.K) := by
  intro pins s σ H x y v u Q I rx ry h
  obtain ⟨l, k, xs, rfl, rfl, hT, hk, hk0, hz, q0, q1⟩ := h
  by_cases big : xs ≠ [] ∧ 2 ≤ k
  · exact op_repT pins s σ H _ _ v u Q I rx ry ⟨l, k, xs, rfl, rfl, hT, big.1, big.2, hk, hz, q1 big.1 (by omega)⟩
  cases rx
  obtain ⟨t, rfl⟩ := ry
  obtain ⟨its, r, ⟨⟨cls, dd, data, sl⟩, ho, hc, n, hd⟩, hs⟩ := I.tuple hT
  simp only at hc hd
  subst hc hd
  have hle : its.length = xs.length := r.length.symm
  have c0 : (decide (k < -(2 ^ 63)) || decide (k ≥ 2 ^ 63)) = false := by
    rw [decide_eq_false (by omega), decide_eq_false (by omega)] <;> rfl
  by_cases one : xs = [] ∨ k = 1
  · have c1 : (its.toArray.isEmpty || k == 1) = true := by
      rcases one with e | e
      · subst e
        have : its = [] := List.eq_nil_of_length_eq_zero (by rw [hle]; rfl)
        subst this
        rfl
      · subst e
        simp
    refine wpAny_binaryOp_repeat_ref (T := "tuple") (U := "int") (by decide) ⟨_, ho, rfl⟩ (fun s' => typeIs_int s' k t) noFill_tuple_mul F.fills_int_mul F.slot_int_rmul repeat_tuple F.slot_int_index.lookup
      (call_meets F.slot_int_rmul (typeIs_int s k t) F.entry_int_rmul (F.args_int_rmul_2 _ _) (int_rmul_tuple k t l its.toArray n dd sl)
        ⟨ho, rfl, ⟨_, ho, rfl⟩, call_meets F.slot_tuple_mul ⟨_, ho, rfl⟩ F.entry_tuple_mul (F.args_tuple_mul_2 _ _) (tuple_mul_same l its.toArray n dd sl k t c0 c1) ⟨ho, ?_⟩⟩)
    exact ⟨.ref l, H, I, rfl, q0 one⟩
  · have hne : xs ≠ [] := fun e => one (.inl e)
    have k1 : k ≠ 1 := fun e => one (.inr e)
    have k0 : k ≤ 0 := by
      have z2 : ¬ 2 ≤ k := fun z => big ⟨hne, z⟩
      omega
    have hn : its ≠ [] := fun e => hne (by
      subst e
      exact List.eq_nil_of_length_eq_zero hle.symm)
    have ie : its.toArray.isEmpty = false := by
      cases its with
      | nil => exact absurd rfl hn
      | cons a b => rfl
    have c1 : (its.toArray.isEmpty || k == 1) = false := by
      rw [ie, Bool.false_or]
      exact beq_eq_false_iff_ne.mpr k1
    have c2 : (decide (k ≤ 0) || its.toArray.isEmpty) = true := by
      rw [decide_eq_true k0]
      rfl
    have e0 : (List.replicate k.toNat xs).flatten = [] := by
      have : k.toNat = 0 := by omega
      rw [this]
      rfl
    refine wpAny_binaryOp_repeat_ref (T := "tuple") (U := "int") (by decide) ⟨_, ho, rfl⟩ (fun s' => typeIs_int s' k t) noFill_tuple_mul F.fills_int_mul F.slot_int_rmul repeat_tuple F.slot_int_index.lookup
      (call_meets F.slot_int_rmul (typeIs_int s k t) F.entry_int_rmul (F.args_int_rmul_2 _ _) (int_rmul_tuple k t l its.toArray n dd sl)
        ⟨ho, rfl, ⟨_, ho, rfl⟩, call_meets F.slot_tuple_mul ⟨_, ho, rfl⟩ F.entry_tuple_mul (F.args_tuple_mul_2 _ _) (tuple_mul_none l its.toArray n dd sl k t c0 c1 c2) ⟨ho, ?_⟩⟩)
    have q2 := q1 hne k1
    rw [e0] at q2
    exact ⟨.ref s.heap.objs.size, _, I.laid (t' := s.toks) (o := .tup []) (fun b ob q => Heap.get?_push_of_some _ q) (Nat.le_refl _) ⟨Nat.zero_le _, [], .nil, IsTup.new _ _⟩, rfl, q2 _ (I.hok.fresh (Nat.le_refl _))⟩
def opMul (m : Bool) : Op2 := fun x y s => match x, y with
  | .int i, .int j => if mulB i j then .ok (.int (i * j)) s else .bad
  | .tup a, .int k => if a.length ≤ 1000 ∧ k ≤ 1000 ∧ -1000 ≤ k then .ok (.tup (List.replicate k.toNat a).flatten) s else .bad
  | _, .int k => match lstD x s with
    | some a => if a.length ≤ 1000 ∧ k ≤ 1000 ∧ -1000 ≤ k then newL m (List.replicate k.toNat a).flatten s else .bad
    | none => .bad
  | _, _ => .bad
def rMulA (K : PySem.W.Frag) : R2 := fun x y H Q => rI CMulW (fun i j => .int (i * j)) x y H Q ∨ (rRepA K x y H Q ∨ rRep x y H Q)
theorem op_mulA : OpR X (binaryOp .Mult) (rMulA X.K) := OpR.or op_mulW (OpR.or op_repA op_rep)
theorem repl_len (xs : List V) (k : Nat) (h : xs.length ≤ 1000) (hk : k ≤ 1000) : (List.replicate k xs).flatten.length ≤ sizeLine := by
  rw [PyProof.Rows.lm_len_rep_flat, sizeLine_eq]
  have : k * xs.length ≤ 1000 * 1000 := Nat.mul_le_mul hk h
  omega
theorem do_mul (m : Bool) : Do2 X (opMul m) (rMulA X.K) := by
  intro x y s ξ ρ H v u Q hr r1 r2 w
  cases r2 with
  | int k =>
    have lists : (match lstD x s with
      | some a => if a.length ≤ 1000 ∧ k ≤ 1000 ∧ -1000 ≤ k then newL m (List.replicate k.toNat a).flatten s else .bad
      | none => (.bad : R D)).wp (fun d s' => ∀ ρ' H' v', Xt ρ H ρ' H' → Hr (X.kx ξ) ρ' H' s' → Rp (X.kx ξ) ρ' H' v' d → Q v' H') → rMulA X.K v (.int k) H Q := by
      intro w
      cases e1 : lstD x s with
      | none => rw [e1] at w; exact w.elim
      | some a =>
        rw [e1] at w
        obtain ⟨p, xs, rfl, h1, z1, q1⟩ := lstD_ok hr r1 e1
        have w' : (if a.length ≤ 1000 ∧ k ≤ 1000 ∧ -1000 ≤ k then newL m (List.replicate k.toNat a).flatten s else .bad).wp _ := w
        by_cases z : a.length ≤ 1000 ∧ k ≤ 1000 ∧ -1000 ≤ k
        · rw [if_pos z] at w'
          have z1 : xs.length ≤ 1000 := by rw [q1.length]; exact z.1
          have hl := repl_len xs k.toNat z1 (by omega)
          refine .inr (.inr ⟨p, k, xs, rfl, rfl, h1, by omega, by omega, ?_, fun q hq => newL_ok hr hq hl (q1.repl _) w'⟩)
          rw [PyProof.Rows.lm_len_rep_flat, Nat.mul_comm] at hl
          exact hl
        · rw [if_neg z] at w'
          exact w'.elim
    cases r1 with
    | int i =>
      have w' : (if mulB i k = true then R.ok (D.int (i * k)) s else .bad).wp _ := w
      by_cases z : mulB i k = true
      · rw [if_pos z] at w'
        exact .inl ⟨i, k, rfl, rfl, of_decide_eq_true (p := i.natAbs.log2 + k.natAbs.log2 < 1000000) z, w' ρ H _ (.refl _ _) hr (.int _)⟩
      · rw [if_neg z] at w'
        exact w'.elim
    | tup f z1 q1 =>
      rename_i p xs a
      have w' : (if a.length ≤ 1000 ∧ k ≤ 1000 ∧ -1000 ≤ k then R.ok (D.tup (List.replicate k.toNat a).flatten) s else .bad).wp _ := w
      by_cases z : a.length ≤ 1000 ∧ k ≤ 1000 ∧ -1000 ≤ k
      · rw [if_pos z] at w'
        have z2 : xs.length ≤ 1000 := by rw [q1.length]; exact z.1
        refine .inr (.inl ⟨p, k, xs, rfl, rfl, f.sq, z.2.1, z.2.2, z2, fun e => ?_, fun _ _ q hq => newT_ok hr hq (repl_len xs k.toNat z2 (by omega)) (q1.repl _) w'⟩)
        refine w' ρ H _ (.refl _ _) hr ?_
        rcases e with e | e
        · subst e
          cases q1
          have e0 : (List.replicate k.toNat ([] : List D)).flatten = [] := by simp
          rw [e0]
          exact .tup f z1 .nil
        · subst e
          have e0 : (List.replicate (1 : Int).toNat a).flatten = a := by simp
          rw [e0]
          exact .tup f z1 q1
      · rw [if_neg z] at w'
        exact w'.elim
    | _ => exact lists w
  | _ => cases r1 <;> exact w.elim
def opNeg : Op1 := fun x s => match x with
  | .int i => .ok (.int (-i)) s
  | _ => .bad
theorem do_neg : Do1 X opNeg (rU fun i => .int (-i)) := by
  intro x s ξ ρ H v Q hr r1 w
  cases r1 with
  | int i => exact ⟨i, rfl, w ρ H _ (.refl _ _) hr (.int _)⟩
  | _ => exact w.elim
end
end Rf
set_option maxHeartbeats 4000000
namespace HT
open PySem PySem.Spec PySem.Calls PyProof.Rows L2
section
variable {prog : Program} {w : World} {A : Around} {E : Value → Shared → Prop} {s : Shared}
theorem adjust_rev (n : Nat) : Builtin.Slice.sliceAdjust none none (-1) (n : Int) = ((n : Int) - 1, -1) := by
  unfold Builtin.Slice.sliceAdjust
  simp
theorem places_rev (n : Nat) : Builtin.Slice.slicePlaces ((n : Int) - 1) (-1) (-1) = n := by
  unfold Builtin.Slice.slicePlaces
  simp
  try omega
theorem sliceApplied_rev {sl : Addr} {t : Tok} {n : Nat} {Q : Int × Int × Nat → Shared → Prop} (hs : s.heap.IsSliceOf sl .none .none (.int (-1) t)) (h : Q ((n : Int) - 1, -1, n) s) :
    wpAny (model prog w) A (Builtin.Slice.sliceApplied (.ref sl) (pure (n : Int))) Q E s := by
  obtain ⟨os, k1, k2, k3⟩ := id hs
  unfold Builtin.Slice.sliceApplied Builtin.Slice.sliceFields
  refine wpAny_bind (wpAny_bind (wpAny_field k1 k3 (x := .none) rfl (wpAny_bind (wpAny_field k1 k3 (x := .none) rfl (wpAny_bind (wpAny_field k1 k3 (x := .int (-1) t) rfl (wpAny_pure ?_)))))))
  refine wpAny_bind (slicePart_int ?_)
  show wpAny _ _ (if ((-1 : Int) == 0) = true then _ else _) _ _ s
  rw [if_neg (by decide)]
  refine wpAny_bind (slicePart_none (wpAny_bind (slicePart_none (wpAny_bind (wpAny_pure ?_)))))
  show wpAny _ _ (match Builtin.Slice.sliceAdjust none none (-1) (n : Int) with | (lo, hi) => pure (lo, (-1 : Int), Builtin.Slice.slicePlaces lo hi (-1))) _ _ s
  rw [adjust_rev n]
  show wpAny _ _ (pure ((n : Int) - 1, (-1 : Int), Builtin.Slice.slicePlaces ((n : Int) - 1) (-1) (-1))) _ _ s
  rw [places_rev]
  exact wpAny_pure h
theorem pick_rev (xs : Array Value) : ((List.range xs.size).filterMap fun (m : Nat) => xs[(((xs.size : Int) - 1) + (m : Int) * (-1)).toNat]?).toArray = xs.toList.reverse.toArray := by
  congr 1
  have e : ∀ k : Nat, k ≤ xs.size → ((List.range k).filterMap fun (m : Nat) => xs[(((xs.size : Int) - 1) + (m : Int) * (-1)).toNat]?) = (xs.toList.reverse.take k) := by
    intro k
    induction k with
    | zero => intro _; rfl
    | succ k ih =>
      intro hk
      have h1 : (((xs.size : Int) - 1) + (k : Int) * (-1)).toNat = xs.size - 1 - k := by omega
      have h2 : xs[xs.size - 1 - k]? = some xs[xs.size - 1 - k] := by rw [Array.getElem?_eq_getElem]
      rw [List.range_succ, List.filterMap_append, ih (by omega), List.filterMap_cons, h1, h2, List.filterMap_nil]
      rw [List.take_add_one]
      congr 1
      rw [List.getElem?_reverse (by simp; omega)]
      simp [h2]
  rw [e xs.size (Nat.le_refl _)]
  exact List.take_of_length_le (by simp)
theorem getItem_tuple_rev {t sl : Addr} {items : Array Value} {tk : Tok} {Q : Value → Shared → Prop} (it : IsTup s.heap t items) (hs : s.heap.IsSliceOf sl .none .none (.int (-1) tk))
    (h : Q (.ref s.heap.objs.size) { s with heap := s.heap.push { cls := .type "tuple", data := .seq items.toList.reverse.toArray } })
    (few : items.size ≤ sizeLine) : wpAny (model prog w) A (getItem (.ref t) (.ref sl)) Q E s := by
  have fits : sizeOk (.seq items.toList.reverse.toArray) := by
    show items.toList.reverse.toArray.size ≤ sizeLine
    simpa using few
  obtain ⟨os, k1, k2, k3⟩ := id hs
  have tsl : s.TypeIs (.ref sl) "slice" := ⟨os, k1, k2⟩
  unfold getItem
  (try (with_reducible refine wpAny_holding ?_))
  (try refine wpAny_bind (wpAny_pure ?_))
  refine wpAny_bind (wpAny_sequenceKey it.typeIs (by decide) ?_)
  refine wpAny_bind (wpAny_callSpecial?_slot (name := Str.ofString "__getitem__") it.typeIs PyProof.Rows.slot_tuple_getitem
    (wpAny_call_entry PyProof.Rows.slot_tuple_getitem it.typeIs entry_tuple_getitem ?_ (args_tuple_getitem _ _)))
  show wpAny _ _ (Builtin.Tuple.tupleItemsOf (.ref t) >>= _) _ _ s
  refine wpAny_bind (tupleItemsOf_ it ?_)
  refine wpAny_bind (wpAny_typeOf tsl ?_)
  rw [if_pos (by decide)]
  refine wpAny_bind (sliceApplied_rev hs ?_)
  have nw : ¬ ((((items.size : Int) - 1) == 0 && (-1 : Int) == 1 && items.size == items.size) = true) := by
    intro q
    rw [Bool.and_eq_true, Bool.and_eq_true] at q
    exact absurd q.1.2 (by decide)
  show wpAny _ _ (if (((items.size : Int) - 1) == 0 && (-1 : Int) == 1 && items.size == items.size) = true then _ else _) _ _ s
  rw [if_neg nw, pick_rev]
  first
    | exact wpAny_bind (m := Builtin.Tuple.tupleExact _) (wpAny_newObj_type (wpAny_pure ⟨_, rfl, wpAny_pure h⟩) fits)
    | exact wpAny_bind (wpAny_bind (m := Builtin.Tuple.tupleExact _) (wpAny_newObj_type (wpAny_pure ⟨_, rfl, wpAny_pure h⟩) fits))
    | exact wpAny_bind (wpAny_bind (m := Builtin.Tuple.tupleExact _) (wpAny_newObj_type (wpAny_pure (wpAny_pure ⟨_, rfl, wpAny_pure h⟩)) fits))
end
end HT
namespace Rf
open PySem PySem.Spec L2
open PyProof.Rows hiding St
/-! ## data as the library knows it -/
mutual
def toP : D → Option PyData
  | .non => some .none
  | .bl b => some (.bool b)
  | .int i => some (.int i)
  | .str x => some (.str x)
  | .tup ds => match toPs ds with
    | some ps => some (.tuple ps)
    | none => none
  | .lst ds => match toPs ds with
    | some ps => some (.list ps)
    | none => none
  | .ro ds => match toPs ds with
    | some ps => some (.list ps)
    | none => none
  | .dct _ => none
  | .ref _ => none
  | .fn _ => none
  | .err _ _ => none
def toPs : List D → Option (List PyData)
  | [] => some []
  | d :: ds => match toP d, toPs ds with
    | some p, some ps => some (p :: ps)
    | _, _ => none
end
def toPd (x : D) (s : Sto) : Option PyData := match x with
  | .ref n => match s[n]? with
    | some (.lst ds) => match toPs ds with
      | some ps => some (.list ps)
      | none => none
    | _ => none
  | _ => toP x
section
variable {K : Kx} {ρ : List Addr} {H : Hp}
mutual
theorem toP_ok : ∀ (d : D) (v : V) (p : PyData), Rp K ρ H v d → toP d = some p → Dp K.K H v p
  | .non, _, p, .non, h => by simp only [toP] at h; cases h; exact .non
  | .bl b, _, p, .bl _, h => by simp only [toP] at h; cases h; exact .bl b
  | .int i, _, p, .int _, h => by simp only [toP] at h; cases h; exact .int i
  | .str y, _, p, .str _, h => by simp only [toP] at h; cases h; exact .str y
  | .tup ds, _, p, .tup f _ r, h => by
    simp only [toP] at h
    cases e : toPs ds with
    | none => rw [e] at h; cases h
    | some ps => rw [e] at h; cases h; exact .tup f.sq (toPs_ok ds _ ps r e)
  | .lst ds, _, p, .lst _ f _ r, h => by
    simp only [toP] at h
    cases e : toPs ds with
    | none => rw [e] at h; cases h
    | some ps => rw [e] at h; cases h; exact .lst (SqL.of f) (toPs_ok ds _ ps r e)
  | .ro ds, _, p, .ro f _ r, h => by
    simp only [toP] at h
    cases e : toPs ds with
    | none => rw [e] at h; cases h
    | some ps => rw [e] at h; cases h; exact .lst f.sq (toPs_ok ds _ ps r e)
  | .ref _, _, p, _, h => by simp only [toP] at h; cases h
theorem toPs_ok : ∀ (ds : List D) (vs : List V) (ps : List PyData), Rps K ρ H vs ds → toPs ds = some ps → DpAll K.K H vs ps
  | [], _, ps, .nil, h => by simp only [toPs] at h; cases h; exact .nil
  | d :: ds, _, ps, .cons q r, h => by
    simp only [toPs] at h
    cases e1 : toP d with
    | none => rw [e1] at h; cases h
    | some p =>
      cases e2 : toPs ds with
      | none => rw [e1, e2] at h; cases h
      | some qs => rw [e1, e2] at h; cases h; exact .cons (toP_ok d _ p q e1) (toPs_ok ds _ qs r e2)
end
theorem toPd_ok {v : V} {x : D} {s : Sto} {p : PyData} (hr : Hr K ρ H s) (r : Rp K ρ H v x) (h : toPd x s = some p) : Dp K.K H v p := by
  by_cases z : ∃ n, x = .ref n
  · obtain ⟨n, rfl⟩ := z
    cases r with
    | ref hn =>
      rename_i a
      have h' : (match s[n]? with | some (.lst ds) => (match toPs ds with | some ps => some (PyData.list ps) | none => none) | _ => none) = some p := h
      cases e : s[n]? with
      | none => rw [e] at h'; cases h'
      | some o =>
        rw [e] at h'
        cases o with
        | lst ds =>
          obtain ⟨xs, h1, h2, h3⟩ := hr.ob n a _ hn e
          have h2 : (match toPs ds with | some ps => some (PyData.list ps) | none => none) = some p := h'
          cases e2 : toPs ds with
          | none => rw [e2] at h2; cases h2
          | some ps => rw [e2] at h2; cases h2; exact .lst (SqL.of h1) (toPs_ok ds _ ps h3 e2)
        | dct => cases h'
        | ins => cases h'
  · have h' : toP x = some p := by
      unfold toPd at h
      split at h
      · exact absurd ⟨_, rfl⟩ z
      · exact h
    exact toP_ok x v p r h'
end
section
variable {X : Cx}
/-! ### == -/
def opEqP (neg : Bool) : Op2 := fun x y s => match toPd x s, toPd y s with
  | some p, some q => if p.canLay0 && q.canLay0 && decide (min p.depth q.depth ≤ 64) then .ok (.bl (if neg then !PyData.eqv p q else PyData.eqv p q)) s else .bad
  | _, _ => .bad
def opEq (neg : Bool) : Op2 := fun x y s => match x, y with
  | .str a, .str b => .ok (.bl (if neg then !decide (a = b) else decide (a = b))) s
  | .tup ds, .tup [] => .ok (.bl (if neg then !ds.isEmpty else ds.isEmpty)) s
  | x, y => opEqP neg x y s
def rEqP (K : PySem.W.Frag) (neg : Bool) : R2 := fun x y H Q => ∃ d e, Dp K H x d ∧ Dp K H y e ∧ d.canLay0 = true ∧ e.canLay0 = true ∧ min d.depth e.depth ≤ 64 ∧ Q (.bl (if neg then !PyData.eqv d e else PyData.eqv d e)) H
def rEqT (K : PySem.W.Frag) (neg : Bool) : R2 := fun x y H Q => ∃ a b xs, x = .ref a ∧ y = .ref b ∧ SqT K H a xs ∧ SqT K H b [] ∧ Q (.bl (if neg then !xs.isEmpty else xs.isEmpty)) H
def rEqA (K : PySem.W.Frag) (neg : Bool) : R2 := fun x y H Q => rEqP K neg x y H Q ∨ ((∃ a b, x = .str a ∧ y = .str b ∧ Q (.bl (if neg then !decide (a = b) else decide (a = b))) H) ∨ rEqT K neg x y H Q)
theorem sz_empty (n : Nat) : ((List.range (min n 0)).all (fun _ => true) && n == 0) = decide (n = 0) := by cases n <;> rfl
theorem empty_len {xs : List V} {us : List Value} (r : Vals xs us) : decide (us.toArray.size = 0) = xs.isEmpty := by cases r <;> rfl
theorem dec_str {a b : Str} : decide (V.str a = V.str b) = decide (a = b) := by
  by_cases h : a = b <;> simp [h]
theorem op_eqA (hu : X.A.units + 64 < cLine) : OpR X (compareOp .Eq) (rEqA X.K false) := by
  intro pins s σ H x y v u Q I rx ry h
  rcases h with ⟨d, e, hd, he, sd, se, hm, q⟩ | ⟨a, b, rfl, rfl, q⟩ | ⟨a, b, xs, rfl, rfl, ha, hb, q⟩
  · obtain ⟨as, r1⟩ := Dp.reads I d x v hd rx
    obtain ⟨bs, r2⟩ := Dp.reads I e y u he ry
    exact SeqAt.compareEq_reads r1 r2 sd se (by omega) ⟨.bl _, H, I, rfl, q⟩
  · exact op_eq pins s σ H _ _ v u Q I rx ry ⟨rfl, by rw [dec_str]; exact q⟩
  · cases (show v = Value.ref a from rx)
    cases (show u = Value.ref b from ry)
    obtain ⟨us, r1, p1, _⟩ := I.tuple ha
    obtain ⟨ws, r2, p2, _⟩ := I.tuple hb
    cases r2
    refine SeqAt.eq_tupleAt (e := fun _ => true) p1 p2 (by omega) (fun j _ h2 => absurd h2 (Nat.not_lt_zero j)) ?_
    rw [show (([] : List Value).toArray.size) = 0 from rfl, sz_empty, empty_len r1]
    exact ⟨.bl _, H, I, rfl, q⟩
theorem op_neA (hu : X.A.units + 64 < cLine) : OpR X (compareOp .NotEq) (rEqA X.K true) := by
  intro pins s σ H x y v u Q I rx ry h
  rcases h with ⟨d, e, hd, he, sd, se, hm, q⟩ | ⟨a, b, rfl, rfl, q⟩ | ⟨a, b, xs, rfl, rfl, ha, hb, q⟩
  · obtain ⟨as, r1⟩ := Dp.reads I d x v hd rx
    obtain ⟨bs, r2⟩ := Dp.reads I e y u he ry
    exact SeqAt.compareNe_reads r1 r2 sd se (by omega) ⟨.bl _, H, I, rfl, q⟩
  · exact op_ne pins s σ H _ _ v u Q I rx ry ⟨rfl, by rw [dec_str]; exact q⟩
  · cases (show v = Value.ref a from rx)
    cases (show u = Value.ref b from ry)
    obtain ⟨us, r1, p1, _⟩ := I.tuple ha
    obtain ⟨ws, r2, p2, _⟩ := I.tuple hb
    cases r2
    refine SeqAt.RcNeAt.tuples (e := fun _ => true) p1 p2 (by omega) (fun j _ h2 => absurd h2 (Nat.not_lt_zero j)) _ _ _ _ ?_
    rw [show (([] : List Value).toArray.size) = 0 from rfl, sz_empty, empty_len r1]
    exact ⟨.bl _, H, I, rfl, q⟩
theorem do_eqP (neg : Bool) : Do2 X (opEqP neg) (rEqP X.K neg) := by
  intro x y s ξ ρ H v u Q hr r1 r2 w
  unfold opEqP at w
  cases e1 : toPd x s with
  | none => rw [e1] at w; exact w.elim
  | some p =>
    cases e2 : toPd y s with
    | none => rw [e1, e2] at w; exact w.elim
    | some q =>
      rw [e1, e2] at w
      have w' : (if (p.canLay0 && q.canLay0 && decide (min p.depth q.depth ≤ 64)) = true then R.ok (D.bl (if neg then !PyData.eqv p q else PyData.eqv p q)) s else .bad).wp _ := w
      by_cases z : (p.canLay0 && q.canLay0 && decide (min p.depth q.depth ≤ 64)) = true
      · rw [if_pos z] at w'
        simp only [Bool.and_eq_true, decide_eq_true_eq] at z
        exact ⟨p, q, toPd_ok hr r1 e1, toPd_ok hr r2 e2, z.1.1, z.1.2, z.2, w' ρ H _ (.refl _ _) hr (.bl _)⟩
      · rw [if_neg z] at w'
        exact w'.elim
theorem do_eq (neg : Bool) : Do2 X (opEq neg) (rEqA X.K neg) := by
  intro x y s ξ ρ H v u Q hr r1 r2 w
  unfold opEq at w
  split at w
  · cases r1
    cases r2
    exact .inr (.inl ⟨_, _, rfl, rfl, w ρ H _ (.refl _ _) hr (.bl _)⟩)
  · cases r1 with
    | tup f z rs =>
      cases r2 with
      | tup f2 z2 rs2 =>
        cases rs2
        exact .inr (.inr ⟨_, _, _, rfl, rfl, f.sq, f2.sq, by rw [rs.isEmpty]; exact w ρ H _ (.refl _ _) hr (.bl _)⟩)
  · exact .inl (do_eqP neg _ _ s ξ ρ H v u Q hr r1 r2 w)
/-! ### in -/
def flatD : D → Bool
  | .non => true
  | .bl _ => true
  | .int _ => true
  | .str _ => true
  | _ => false
def eqF : D → D → Bool
  | .non, .non => true
  | .bl a, .bl b => a == b
  | .bl a, .int b => (if a then 1 else 0) == b
  | .int a, .bl b => a == (if b then 1 else 0)
  | .int a, .int b => a == b
  | .str a, .str b => a == b
  | _, _ => false
def inF (x : D) (ds : List D) : Bool := ds.any fun y => eqF y x
section
variable {K : Kx} {ρ : List Addr} {H : Hp}
theorem flatD_ok {v : V} {d : D} (r : Rp K ρ H v d) : flatV v = flatD d := by cases r <;> rfl
theorem flatDs_ok : ∀ {vs : List V} {ds : List D}, Rps K ρ H vs ds → vs.all flatV = ds.all flatD
  | _, _, .nil => rfl
  | _, _, .cons h r => by rw [List.all_cons, List.all_cons, flatD_ok h, flatDs_ok r]
theorem eqF_ok {v u : V} {d e : D} (r : Rp K ρ H v d) (q : Rp K ρ H u e) : eqV v u = eqF d e := by cases r <;> cases q <;> rfl
theorem inF_ok {v : V} {d : D} (h : Rp K ρ H v d) : ∀ {vs : List V} {ds : List D}, Rps K ρ H vs ds → inV v vs = inF d ds
  | _, _, .nil => rfl
  | _, _, .cons q r => by
    show (eqV _ v || inV v _) = (eqF _ d || inF d _)
    rw [eqF_ok q h, inF_ok h r]
end
def subS (a b : Str) : Bool := !(Builtin.Str.occurrences b a 0 b.length 1).isEmpty
def opIn (neg : Bool) : Op2 := fun x y s => match x, y with
  | .str a, .str b => .ok (.bl (if neg then !subS a b else subS a b)) s
  | x, .tup ds => if flatD x && ds.all flatD then .ok (.bl (if neg then !inF x ds else inF x ds)) s else .bad
  | x, y => match seqD y s with
    | some ds => if flatD x && ds.all flatD then .ok (.bl (if neg then !inF x ds else inF x ds)) s else .bad
    | none => .bad
def rInA (K : PySem.W.Frag) (neg : Bool) : R2 := fun x y H Q => rIn K neg x y H Q ∨ ∃ i j, x = .str i ∧ y = .str j ∧ Q (.bl (if neg then !subS i j else subS i j)) H
theorem op_inA : OpR X (compareOp .In) (rInA X.K false) := OpR.or op_in_seq op_in_str
theorem op_notInA : OpR X (compareOp .NotIn) (rInA X.K true) := OpR.or op_notIn_seq op_notin_str
theorem do_in (neg : Bool) : Do2 X (opIn neg) (rInA X.K neg) := by
  intro x y s ξ ρ H v u Q hr r1 r2 w
  have go : ∀ (ds : List D) (p : Addr) (ys : List V), (SqL X.K H p ys ∨ SqT X.K H p ys) → Rps (X.kx ξ) ρ H ys ds → u = .ref p →
      (if (flatD x && ds.all flatD) = true then R.ok (D.bl (if neg then !inF x ds else inF x ds)) s else .bad).wp (fun d s' => ∀ ρ' H' v', Xt ρ H ρ' H' → Hr (X.kx ξ) ρ' H' s' → Rp (X.kx ξ) ρ' H' v' d → Q v' H') → rInA X.K neg v u H Q := by
    intro ds p ys hs q e w
    by_cases z : (flatD x && ds.all flatD) = true
    · rw [if_pos z] at w
      rw [Bool.and_eq_true] at z
      refine .inl ⟨p, ys, e, hs, by rw [flatD_ok r1]; exact z.1, by rw [flatDs_ok q]; exact z.2, ?_⟩
      rw [inF_ok r1 q]
      exact w ρ H _ (.refl _ _) hr (.bl _)
    · rw [if_neg z] at w
      exact w.elim
  have lists : (match seqD y s with
      | some ds => if flatD x && ds.all flatD then R.ok (D.bl (if neg then !inF x ds else inF x ds)) s else .bad
      | none => .bad).wp (fun d s' => ∀ ρ' H' v', Xt ρ H ρ' H' → Hr (X.kx ξ) ρ' H' s' → Rp (X.kx ξ) ρ' H' v' d → Q v' H') → rInA X.K neg v u H Q := by
    intro w
    cases e : seqD y s with
    | none => rw [e] at w; exact w.elim
    | some ds =>
      rw [e] at w
      obtain ⟨p, ys, e1, h1, _, q⟩ := seqD_ok hr r2 e
      exact go ds p ys (.inl h1) q e1 w
  cases r2 with
  | tup f z q =>
    rename_i p ys ds
    exact go ds p ys (.inr f.sq) q rfl (by cases r1 <;> exact w)
  | str b =>
    cases r1 with
    | str a => exact .inr ⟨a, b, rfl, rfl, w ρ H _ (.refl _ _) hr (.bl _)⟩
    | _ => exact lists w
  | _ => exact lists (by cases r1 <;> exact w)
/-! ### is None -/
def isN (x : D) : Bool := match x with
  | .non => true
  | _ => false
theorem isN_ok {K : Kx} {ρ : List Addr} {H : Hp} {v : V} {d : D} (r : Rp K ρ H v d) : decide (v = .non) = isN d := by cases r <;> rfl
def opIsN (neg : Bool) : Op1 := fun x s => .ok (.bl (if neg then !isN x else isN x)) s
theorem do_isN (neg : Bool) : Do1 X (opIsN neg) (fun x H Q => Q (.bl (if neg then !decide (x = .non) else decide (x = .non))) H) := by
  intro x s ξ ρ H v Q hr r1 w
  rw [isN_ok r1]
  exact w ρ H _ (.refl _ _) hr (.bl _)
/-! ### x[i] -/
def opIx : Op2 := fun x y s => match x, y with
  | .tup ds, .int i => match atI ds i with
    | some d => .ok d s
    | none => .bad
  | .str z, .int i => if z.length ≤ sizeLine then (match atI z.cps.toList i with
    | some c => .ok (.str ⟨#[c]⟩) s
    | none => .bad) else .bad
  | x, .int i => match seqD x s with
    | some ds => match atI ds i with
      | some d => .ok d s
      | none => .bad
    | none => .bad
  | _, _ => .bad
theorem atI_ok {K : Kx} {ρ : List Addr} {H : Hp} {vs : List V} {ds : List D} {i : Int} {d : D} (r : Rps K ρ H vs ds) (h : atI ds i = some d) : ∃ v, atI vs i = some v ∧ Rp K ρ H v d := by
  unfold atI at h ⊢
  rw [r.length]
  cases e : ixN ds.length i with
  | none => rw [e] at h; cases h
  | some j =>
    rw [e] at h
    exact r.get h
theorem do_ix : Do2 X opIx (rIx X.K) := by
  intro x y s ξ ρ H v u Q hr r1 r2 w
  cases r2 with
  | int i =>
    have lists : (match seqD x s with
      | some ds => (match atI ds i with
        | some d => R.ok d s
        | none => .bad)
      | none => .bad).wp (fun d s' => ∀ ρ' H' v', Xt ρ H ρ' H' → Hr (X.kx ξ) ρ' H' s' → Rp (X.kx ξ) ρ' H' v' d → Q v' H') → rIx X.K v (.int i) H Q := by
      intro w
      cases e : seqD x s with
      | none => rw [e] at w; exact w.elim
      | some ds =>
        rw [e] at w
        have w' : (match atI ds i with | some d => R.ok d s | none => .bad).wp _ := w
        cases e2 : atI ds i with
        | none => rw [e2] at w'; exact w'.elim
        | some d =>
          rw [e2] at w'
          obtain ⟨p, ys, e1, h1, _, q⟩ := seqD_ok hr r1 e
          obtain ⟨z, hz, rz⟩ := atI_ok q e2
          exact .inl ⟨p, ys, i, z, e1, rfl, h1, hz, w' ρ H _ (.refl _ _) hr rz⟩
    cases r1 with
    | tup f z q =>
      rename_i p ys ds
      have w' : (match atI ds i with | some d => R.ok d s | none => .bad).wp _ := w
      cases e2 : atI ds i with
      | none => rw [e2] at w'; exact w'.elim
      | some d =>
        rw [e2] at w'
        obtain ⟨z, hz, rz⟩ := atI_ok q e2
        exact .inr (.inl ⟨p, ys, i, z, rfl, rfl, f.sq, hz, w' ρ H _ (.refl _ _) hr rz⟩)
    | str z =>
      have w' : (if z.length ≤ sizeLine then (match atI z.cps.toList i with | some c => R.ok (D.str ⟨#[c]⟩) s | none => .bad) else .bad).wp _ := w
      by_cases hz : z.length ≤ sizeLine
      · rw [if_pos hz] at w'
        cases e2 : atI z.cps.toList i with
        | none => rw [e2] at w'; exact w'.elim
        | some c =>
          rw [e2] at w'
          exact .inr (.inr ⟨z, i, c, rfl, rfl, hz, e2, w' ρ H _ (.refl _ _) hr (.str _)⟩)
      · rw [if_neg hz] at w'
        exact w'.elim
    | _ => exact lists w
  | _ => cases r1 <;> exact w.elim
/-! ### x[a:b] -/
def cutD (ds : List D) (lo hi : Option Int) : List D := (ds.drop (HT.sIx ds.length 0 lo)).take (HT.sIx ds.length ds.length hi - HT.sIx ds.length 0 lo)
def opSl (m : Bool) (x : D) (lo hi : Option Int) (s : Sto) : R D := match x with
  | .tup ds => .ok (.tup (cutD ds lo hi)) s
  | .str z => if z.length ≤ sizeLine then .ok (.str (cutS z lo hi)) s else .bad
  | _ => match seqD x s with
    | some ds => newL m (cutD ds lo hi) s
    | none => .bad
theorem cutD_ok {K : Kx} {ρ : List Addr} {H : Hp} {vs : List V} {ds : List D} (r : Rps K ρ H vs ds) (lo hi : Option Int) : Rps K ρ H (cutV vs lo hi) (cutD ds lo hi) := by
  unfold cutV cutD
  rw [r.length]
  exact (r.drop _).take _
theorem cut_whole {α : Type} (xs : List α) (lo hi : Option Int) (h : HT.sIx xs.length 0 lo = 0 ∧ HT.sIx xs.length xs.length hi = xs.length) : (xs.drop (HT.sIx xs.length 0 lo)).take (HT.sIx xs.length xs.length hi - HT.sIx xs.length 0 lo) = xs := by
  rw [h.1, h.2]
  simp
def rSlAll (K : PySem.W.Frag) : V → Option Int → Option Int → Hp → VK → Prop := fun x lo hi H Q => rSlA K x lo hi H Q ∨ (rSlL K x lo hi H Q ∨ rSlS x lo hi H Q)
theorem sl_all : SlR X (rSlAll X.K) := SlR.or sl_tupA (SlR.or sl_list sl_str)
theorem do_sl (m : Bool) (x : D) (lo hi : Option Int) (s : Sto) (ξ ρ : List Addr) (H : Hp) (v : V) (Q : VK) (hr : Hr (X.kx ξ) ρ H s) (r1 : Rp (X.kx ξ) ρ H v x)
    (w : (opSl m x lo hi s).wp (fun d s' => ∀ ρ' H' v', Xt ρ H ρ' H' → Hr (X.kx ξ) ρ' H' s' → Rp (X.kx ξ) ρ' H' v' d → Q v' H')) : rSlAll X.K v lo hi H Q := by
  have lists : (match seqD x s with
    | some ds => newL m (cutD ds lo hi) s
    | none => .bad).wp (fun d s' => ∀ ρ' H' v', Xt ρ H ρ' H' → Hr (X.kx ξ) ρ' H' s' → Rp (X.kx ξ) ρ' H' v' d → Q v' H') → rSlAll X.K v lo hi H Q := by
    intro w
    cases e : seqD x s with
    | none => rw [e] at w; exact w.elim
    | some ds =>
      rw [e] at w
      obtain ⟨p, ys, e1, h1, z, q⟩ := seqD_ok hr r1 e
      exact .inr (.inl ⟨p, ys, e1, h1, fun q' hq => newL_ok hr hq (Nat.le_trans (cutV_length _ _ _) z) (cutD_ok q lo hi) w⟩)
  cases r1 with
  | tup f z q =>
    rename_i p ys ds
    have w' : (R.ok (D.tup (cutD ds lo hi)) s).wp (fun d s' => ∀ ρ' H' v', Xt ρ H ρ' H' → Hr (X.kx ξ) ρ' H' s' → Rp (X.kx ξ) ρ' H' v' d → Q v' H') := w
    refine .inl ⟨p, ys, rfl, f.sq, fun hw => ?_, fun _ q' hq => newT_ok hr hq (Nat.le_trans (cutV_length _ _ _) z) (cutD_ok q lo hi) w'⟩
    refine w' ρ H _ (.refl _ _) hr ?_
    have e : cutD ds lo hi = ds := cut_whole ds lo hi (by rw [← q.length]; exact hw)
    rw [e]
    exact .tup f z q
  | str z =>
    have w' : (if z.length ≤ sizeLine then R.ok (D.str (cutS z lo hi)) s else .bad).wp _ := w
    by_cases hz : z.length ≤ sizeLine
    · rw [if_pos hz] at w'
      exact .inr (.inr ⟨z, rfl, hz, w' ρ H _ (.refl _ _) hr (.str _)⟩)
    · rw [if_neg hz] at w'
      exact w'.elim
  | _ => exact lists w
def mPart (o : Option ME) : Ev → Sto → R (Option Int) := fun env st => match o with
  | none => .ok none st
  | some a => (a env st).bd fun x s => match x with
    | .int i => .ok (some i) s
    | _ => .bad
def mSl (m : Bool) (a : ME) (lo hi : Option ME) : ME := fun env st => (a env st).bd fun x s => (mPart lo env s).bd fun l s1 => (mPart hi env s1).bd fun h s2 => opSl m x l h s2
def SO (X : Cx) (e : Option Expr) (o : Option ME) : Prop := match e, o with
  | none, none => True
  | some e, some m => SE X e m
  | _, _ => False
theorem so_ok {e : Option Expr} {o : Option ME} (h : SO X e o) : ∃ t, PO X e t ∧ ∀ (ξ ρ : List Addr) (H : Hp) (σ : L2.St) (env : Ev) (st : Sto) (Q : Option Int → Hp → Prop), Er (X.kx ξ) ρ H σ env → Hr (X.kx ξ) ρ H st →
    (mPart o env st).wp (fun i st' => ∀ ρ' H', Xt ρ H ρ' H' → Hr (X.kx ξ) ρ' H' st' → Q i H') → t σ H Q := by
  cases e with
  | none =>
    cases o with
    | none => exact ⟨_, po_none, fun ξ ρ H σ env st Q _ hr w => w ρ H (.refl _ _) hr⟩
    | some m => exact h.elim
  | some e =>
    cases o with
    | none => exact h.elim
    | some m =>
      have h' : SE X e m := h
      refine ⟨_, po_some pe_re, fun ξ ρ H σ env st Q e0 hr w => ?_⟩
      refine h' ξ ρ H σ env st _ e0 hr (R.wp_mono (R.wp_bd.mp w) fun x s w1 ρ1 H1 v x1 h1 r1 => ?_)
      cases r1 with
      | int i => exact ⟨i, rfl, w1 ρ1 H1 x1 h1⟩
      | _ => exact w1.elim
theorem se_sl {m : Bool} {a : Expr} {lo hi : Option Expr} {ma : ME} {ol oh : Option ME} {p2 pos : Pos} (ha : SE X a ma) (hl : SO X lo ol) (hh : SO X hi oh) : SE X (.Subscript a (.Slice lo hi none p2) pos) (mSl m ma ol oh) := fun ξ ρ H σ env st Q e0 hr w => by
  obtain ⟨tl, pl, kl⟩ := so_ok hl
  obtain ⟨th, ph, kh⟩ := so_ok hh
  refine (pe_slice sl_all pe_re pl ph).re ?_
  refine ha ξ ρ H σ env st _ e0 hr (R.wp_mono (R.wp_bd.mp w) fun x s w1 ρ1 H1 v x1 h1 r1 => ?_)
  refine kl ξ ρ1 H1 σ env s _ (e0.xt x1) h1 (R.wp_mono (R.wp_bd.mp w1) fun l s1 w2 ρ2 H2 x2 h2 => ?_)
  refine kh ξ ρ2 H2 σ env s1 _ (e0.xt (x1.trans x2)) h2 (R.wp_mono (R.wp_bd.mp w2) fun h s2 w3 ρ3 H3 x3 h3 => ?_)
  exact do_sl m x l h s2 ξ ρ3 H3 v Q h3 (r1.xt (x2.trans x3)) (R.wp_mono w3 fun d s' k ρ' H' v' x' => k ρ' H' v' (((x1.trans x2).trans x3).trans x'))
/-- x[::-1] of a list -/
def tRevT (K : PySem.W.Frag) (te : TE) : TE := fun σ H Q => te σ H fun v H1 => ∃ t ys, v = .ref t ∧ SqT K H1 t ys ∧ ∀ p, H1 p = none → Q (.ref p) (upd H1 p (.tup ys.reverse))
theorem pe_revT {e : Expr} {te : TE} {j : Nat} {p1 p2 p3 pos : Pos} (he : PE X e te) : PE X (.Subscript e (.Slice none none (some (.UnaryOp .USub (.Constant (.int 1) j p1) p2)) p3) pos) (tRevT X.K te) := by
  refine ⟨fun pins s σ H Q I h => Subscript_ (thn (he.run pins s σ H _ I h) fun v s1 ⟨y, H1, I1, rv, z⟩ => ?_)⟩
  obtain ⟨b, ys, rfl, hy, z⟩ := z
  cases rv
  have back : PO X (some (.UnaryOp .USub (.Constant (.int 1) j p1) p2)) (tPart (tUn (rU fun i => .int (-i)) (tC (.int 1)))) := po_some (pe_un un_neg pe_int)
  refine wpAny_Slice (thn (po_none.run pins s1 σ H1 (fun o G => o = none ∧ G = H1) I1 ⟨rfl, rfl⟩) fun a1 s2 ⟨o1, G1, J1, t1, f1, g1⟩ => ?_)
  subst f1 g1
  refine thn (po_none.run pins s2 σ G1 (fun o G => o = none ∧ G = G1) J1 ⟨rfl, rfl⟩) fun a2 s3 ⟨o2, G2, J2, t2, f2, g2⟩ => ?_
  subst f2 g2
  refine thn (back.run pins s3 σ G2 (fun o G => o = some (-1) ∧ G = G2) J2 ⟨1, rfl, -1, rfl, rfl, rfl⟩) fun a3 s4 ⟨o3, G3, J3, t3, f3, g3⟩ => ?_
  subst f3 g3
  obtain rfl : a1 = .none := by cases t1; rfl
  obtain rfl : a2 = .none := by cases t2; rfl
  obtain ⟨tk, rfl⟩ : ∃ tk, a3 = .int (-1) tk := by cases t3; exact ⟨_, rfl⟩
  have J4 : L2.Inv X pins σ G3 { s4 with heap := s4.heap.push { cls := .type "slice", data := .fields #[.none, .none, .int (-1) tk] } } := J3.kept (t' := s4.toks) fun c ob q => Heap.get?_push_of_some _ q
  obtain ⟨its, r, it, hz⟩ := J4.tuple hy
  have hl := r.length
  show wpAny (model X.prog X.w) X.A (subscriptTail e (.Slice none none (some (.UnaryOp .USub (.Constant (.int 1) j p1) p2)) p3) (.ref b) (.ref s4.heap.objs.size)) (EP X pins σ Q) X.xe { s4 with heap := s4.heap.push { cls := .type "slice", data := .fields #[.none, .none, .int (-1) tk] } }
  refine tail_any (ops := [.ref b, .ref s4.heap.objs.size]) it.typeIs (PyProof.Rows.slot_tuple_getitem.lookup) ?_ (by with_unfolding_all rfl)
  refine HT.getItem_tuple_rev it (Heap.IsSliceOf.new _ .none .none (.int (-1) tk)) ?_ (by rw [List.size_toArray]; omega)
  refine ⟨.ref _, _, J4.laid (t' := s4.toks) (o := .tup ys.reverse) (fun c ob q => Heap.get?_push_of_some _ q) (Nat.le_refl _) ?_, rfl, z _ (J4.hok.fresh (Nat.le_refl _))⟩
  exact ⟨by rw [List.length_reverse]; exact hz, its.reverse, r.reverse, IsTup.new _ _⟩
def opRev (m : Bool) : Op1 := fun x s => match x with
  | .tup ds => .ok (.tup ds.reverse) s
  | x => match seqD x s with
    | some ds => newL m ds.reverse s
    | none => .bad
theorem se_rev {m : Bool} {a : Expr} {ma : ME} {k : Nat} {p1 p2 p3 pos : Pos} (ha : SE X a ma) : SE X (.Subscript a (.Slice none none (some (.UnaryOp .USub (.Constant (.int 1) k p1) p2)) p3) pos) (mOp1 (opRev m) ma) := fun ξ ρ H σ env st Q e0 hr w => by
  cases e1 : ma env st with
  | ex => exact ((show (R.bd (ma env st) _).wp _ from w) |> fun z => by rw [e1] at z; exact z.elim)
  | bad => exact ((show (R.bd (ma env st) _).wp _ from w) |> fun z => by rw [e1] at z; exact z.elim)
  | ok x s =>
    have w1 : (opRev m x s).wp (fun d st' => ∀ ρ' H' v, Xt ρ H ρ' H' → Hr (X.kx ξ) ρ' H' st' → Rp (X.kx ξ) ρ' H' v d → Q v H') := by
      have z : (R.bd (ma env st) fun x s => opRev m x s).wp _ := w
      rw [e1] at z
      exact z
    unfold opRev at w1
    split at w1
    · refine (pe_revT pe_re).re (ha ξ ρ H σ env st _ e0 hr ?_)
      rw [e1]
      intro ρ1 H1 v x1 h1 r1
      cases r1 with
      | tup f z rs => exact ⟨_, _, rfl, f.sq, fun q' hq => newT_ok h1 hq (by simpa using z) rs.rev fun ρ' H' v' x' => w1 ρ' H' v' (x1.trans x')⟩
    · refine (pe_revL pe_re).re (ha ξ ρ H σ env st _ e0 hr ?_)
      rw [e1]
      intro ρ1 H1 v x1 h1 r1
      cases e : seqD x s with
      | none => rw [e] at w1; exact w1.elim
      | some ds =>
        rw [e] at w1
        obtain ⟨p, ys, e1, hs, z, q⟩ := seqD_ok h1 r1 e
        exact ⟨p, ys, e1, hs, fun q' hq => newL_ok h1 hq (by simpa using z) q.rev (R.wp_mono w1 fun d s' k ρ' H' v' x' => k ρ' H' v' (x1.trans x'))⟩
end
end Rf
set_option maxHeartbeats 4000000
namespace Rf
open PySem PySem.Spec L2
open PyProof.Rows hiding St
/-! ## displays, built-in functions -/
section
variable {X : Cx}
def opTup : List D → Sto → R D := fun ds s => if ds.length ≤ 1000 then .ok (.tup ds) s else .bad
def opLst (m : Bool) : List D → Sto → R D := fun ds s => if ds.length ≤ 1000 then newL m ds s else .bad
theorem line1000 {n : Nat} (h : n ≤ 1000) : n ≤ sizeLine := Nat.le_of_lt (small1000 h)
theorem do_tup : DoN X opTup (fun xs H Q => xs.length ≤ sizeLine ∧ ∀ p, H p = none → Q (.ref p) (upd H p (.tup xs))) := by
  intro xs s ξ ρ H vs Q hr r w
  have w' : (if xs.length ≤ 1000 then R.ok (D.tup xs) s else .bad).wp _ := w
  by_cases z : xs.length ≤ 1000
  · rw [if_pos z] at w'
    have z' : vs.length ≤ sizeLine := by rw [r.length]; exact line1000 z
    exact ⟨z', fun p hp => newT_ok hr hp z' r w'⟩
  · rw [if_neg z] at w'; exact w'.elim
theorem do_lst (m : Bool) : DoN X (opLst m) (fun xs H Q => xs.length ≤ sizeLine ∧ ∀ p, H p = none → Q (.ref p) (upd H p (.lst xs))) := by
  intro xs s ξ ρ H vs Q hr r w
  have w' : (if xs.length ≤ 1000 then newL m xs s else .bad).wp _ := w
  by_cases z : xs.length ≤ 1000
  · rw [if_pos z] at w'
    have z' : vs.length ≤ sizeLine := by rw [r.length]; exact line1000 z
    exact ⟨z', fun p hp => newL_ok hr hp z' r w'⟩
  · rw [if_neg z] at w'; exact w'.elim
theorem se_tup {es : List Expr} {ma : MA} {k : Nat} {pos : Pos} (h : SA X es ma) : SE X (.Tuple es k pos) (mOpN opTup ma) := se_opN (pe_tup pa_ra) h do_tup
theorem se_lst {es : List Expr} {ma : MA} {pos : Pos} (m : Bool) (h : SA X es ma) : SE X (.List es pos) (mOpN (opLst m) ma) := se_opN (pe_lst pa_ra) h (do_lst m)
/-- {} -/
def mDct : ME := fun _ st => .ok (.dct []) st
theorem se_dct {pos : Pos} : SE X (.Dict [] [] pos) mDct := fun ξ ρ H σ env s Q e0 hr w => by
  refine pe_dnewK.re fun p hp => ?_
  exact w ρ _ _ (.same (same_upd hp)) (hr.same (same_upd hp)) (.dct (hr.new hp) upd_same)
/-! ### isinstance -/
inductive Ty where
  | none | bool | int | str | tuple | list | dict
  deriving DecidableEq
def Ty.nm : Ty → String
  | .none => "NoneType" | .bool => "bool" | .int => "int" | .str => "str" | .tuple => "tuple" | .list => "list" | .dict => "dict"
def Ty.sub : Ty → Ty → Bool
  | .bool, .int => true
  | a, b => a = b
theorem Ty.kit (a b : Ty) : kitB a.nm b.nm = some (a.sub b) := by cases a <;> cases b <;> decide +kernel
def tyD (x : D) (s : Sto) : Option Ty := match x with
  | .non => some .none
  | .bl _ => some .bool
  | .int _ => some .int
  | .str _ => some .str
  | .tup _ => some .tuple
  | .lst _ => some .list
  | .ro _ => some .list
  | .dct _ => some .dict
  | .ref n => match s[n]? with
    | some (.lst _) => some .list
    | _ => none
  | _ => none
theorem tyD_ok {K : Kx} {ρ : List Addr} {H : Hp} {v : V} {x : D} {s : Sto} {t : Ty} (hr : Hr K ρ H s) (r : Rp K ρ H v x) (h : tyD x s = some t) : TyX K.K H v (.type t.nm) := by
  cases r with
  | non => cases h; exact .base .non
  | bl b => cases h; exact .base (.bl b)
  | int i => cases h; exact .base (.int i)
  | str y => cases h; exact .base (.str y)
  | tup f z q =>
    cases h
    rcases f with ⟨_, f⟩ | ⟨o, its, n, e1, e2, _⟩
    · rcases f with f | ⟨o, f⟩
      · exact .base (.tup f)
      · exact .fTuple f
    · exact .kTuple e1 e2
  | lst n f z q => cases h; exact .base (.lst f)
  | ro f z q =>
    cases h
    rcases f with ⟨_, f⟩ | ⟨o, its, n, e1, e2, _⟩
    · rcases f with f | ⟨o, f⟩
      · exact .base (.lst f)
      · exact .base (.frz f)
    · exact .kList e1 e2
  | ref hn =>
    rename_i a n
    have h' : (match s[n]? with | some (.lst _) => some Ty.list | _ => none) = some t := h
    cases e : s[n]? with
    | none => rw [e] at h'; cases h'
    | some o =>
      rw [e] at h'
      cases o with
      | lst ds =>
        cases h'
        obtain ⟨xs, h1, _, _⟩ := hr.ob n a _ hn e
        exact .base (.lst h1)
      | dct => cases h'
      | ins => cases h'
  | dct n h1 => cases h; exact .base (.dK h1)
def opIsi (t : Ty) : Op1 := fun x s => match tyD x s with
  | some u => .ok (.bl (u.sub t)) s
  | none => .bad
theorem boot_ty (t : Ty) (h : t ≠ .none) : bootBuiltins (PySem.Str.ofString t.nm) = some (.type t.nm) := by
  cases t
  · exact absurd rfl h
  all_goals decide +kernel
theorem boot_isi : bootBuiltins "isinstance" = some (.builtin "isinstance") := by decide +kernel
theorem se_isi {G : Gi} {F : Fn} {a : Expr} {ma : ME} {t : Ty} {p p2 pos : Pos} (W : Wd X G F) (ht : t ≠ .none) (hg : Gl X "isinstance") (hg2 : Gl X (PySem.Str.ofString t.nm)) (hm : X.mg (PySem.Str.ofString t.nm) = none) (hp : plainArg a = true) (ha : SE X a ma) :
    SE X (.Call (.Name "isinstance" p) [a, .Name (PySem.Str.ofString t.nm) p2] [] pos) (mOp1 (opIsi t) ma) := fun ξ ρ H σ env st Q e0 hr w => by
  have hm1 : X.mg "isinstance" = none := W.bl ("isinstance", .builtin "isinstance") (by simp [blts])
  have hn : PySem.Str.ofString t.nm ≠ "__name__" := by cases t <;> decide
  have hd : (PySem.Str.ofString t.nm == ("__debug__" : Str)) = false := by cases t <;> decide
  refine (pe_callB call_isi hg hm1 boot_isi (pa_cons pe_re (pa_cons (pe_bltn (v := .ty t.nm) (u := .type t.nm) hg2 hm (boot_ty t ht) rfl hn hd) pa_nil) (star_cons hp)) (by decide) (by decide) (star_cons hp)).re ?_
  refine ha ξ ρ H σ env st _ e0 hr (R.wp_mono (R.wp_bd.mp w) fun x s w1 ρ1 H1 v x1 h1 r1 => ?_)
  unfold opIsi at w1
  cases e : tyD x s with
  | none => rw [e] at w1; exact w1.elim
  | some u =>
    rw [e] at w1
    exact ⟨v, .ty t.nm, .type u.nm, .type t.nm, u.sub t, rfl, .ty _, tyD_ok h1 r1 e, kit_ty (Ty.kit u t), w1 ρ1 H1 _ x1 h1 (.bl _)⟩
/-! ### len, abs, max, min, int, divmod, gcd, all, any, sum, tuple, list, str, repr -/
theorem Rps.one {K : Kx} {ρ : List Addr} {H : Hp} {vs : List V} {d : D} (r : Rps K ρ H vs [d]) : ∃ v, vs = [v] ∧ Rp K ρ H v d := by
  cases r with
  | cons h t => cases t; exact ⟨_, rfl, h⟩
theorem Rps.two {K : Kx} {ρ : List Addr} {H : Hp} {vs : List V} {d e : D} (r : Rps K ρ H vs [d, e]) : ∃ v u, vs = [v, u] ∧ Rp K ρ H v d ∧ Rp K ρ H u e := by
  cases r with
  | cons h t =>
    obtain ⟨u, rfl, q⟩ := t.one
    exact ⟨_, _, rfl, h, q⟩
def un1 (f : Op1) : List D → Sto → R D := fun xs s => match xs with
  | [x] => f x s
  | _ => .bad
def un2 (f : Op2) : List D → Sto → R D := fun xs s => match xs with
  | [x, y] => f x y s
  | _ => .bad
theorem do_un1 {f : Op1} {r : List V → Hp → VK → Prop} (h : Do1 X f (fun v H Q => r [v] H Q)) : DoN X (un1 f) r := by
  intro xs s ξ ρ H vs Q hr q w
  unfold un1 at w
  split at w
  · obtain ⟨v, rfl, q1⟩ := q.one
    exact h _ s ξ ρ H v Q hr q1 w
  · exact w.elim
theorem do_un2 {f : Op2} {r : List V → Hp → VK → Prop} (h : Do2 X f (fun v u H Q => r [v, u] H Q)) : DoN X (un2 f) r := by
  intro xs s ξ ρ H vs Q hr q w
  unfold un2 at w
  split at w
  · obtain ⟨v, u, rfl, q1, q2⟩ := q.two
    exact h _ _ s ξ ρ H v u Q hr q1 q2 w
  · exact w.elim
def opLen : Op1 := fun x s => match x with
  | .str z => if z.length ≤ sizeLine then .ok (.int z.length) s else .bad
  | .tup ds => .ok (.int ds.length) s
  | x => match seqD x s with
    | some ds => .ok (.int ds.length) s
    | none => .bad
def rLen (K : PySem.W.Frag) : List V → Hp → VK → Prop := fun xs H Q => ∃ x n, xs = [x] ∧ LenV K x H n ∧ Q (.int n) H
theorem do_len : Do1 X opLen (fun v H Q => rLen X.K [v] H Q) := by
  intro x s ξ ρ H v Q hr r1 w
  have lists : (match seqD x s with
    | some ds => R.ok (D.int ds.length) s
    | none => .bad).wp (fun d s' => ∀ ρ' H' v', Xt ρ H ρ' H' → Hr (X.kx ξ) ρ' H' s' → Rp (X.kx ξ) ρ' H' v' d → Q v' H') → rLen X.K [v] H Q := by
    intro w
    cases e : seqD x s with
    | none => rw [e] at w; exact w.elim
    | some ds =>
      rw [e] at w
      obtain ⟨p, ys, rfl, h1, z, q⟩ := seqD_ok hr r1 e
      exact ⟨_, ds.length, rfl, .inl ⟨ys, h1, q.length.symm⟩, w ρ H _ (.refl _ _) hr (.int _)⟩
  cases r1 with
  | str z =>
    have w' : (if z.length ≤ sizeLine then R.ok (D.int z.length) s else .bad).wp _ := w
    by_cases hz : z.length ≤ sizeLine
    · rw [if_pos hz] at w'
      exact ⟨_, z.length, rfl, ⟨hz, rfl⟩, w' ρ H _ (.refl _ _) hr (.int _)⟩
    · rw [if_neg hz] at w'; exact w'.elim
  | tup f z q => exact ⟨_, _, rfl, .inr ⟨_, f.sq, q.length.symm⟩, w ρ H _ (.refl _ _) hr (.int _)⟩
  | _ => exact lists w
def opAbs : List D → Sto → R D := fun xs s => match xs with
  | [.int i] => .ok (.int (if i < 0 then -i else i)) s
  | _ => .bad
def opMax : List D → Sto → R D := fun xs s => match xs with
  | [.int i, .int j] => .ok (.int (if j > i then j else i)) s
  | _ => .bad
def opMin : List D → Sto → R D := fun xs s => match xs with
  | [.int i, .int j] => .ok (.int (if j < i then j else i)) s
  | _ => .bad
def opInt : List D → Sto → R D := fun xs s => match xs with
  | [.int i] => .ok (.int i) s
  | [.bl k] => .ok (.int (if k then 1 else 0)) s
  | _ => .bad
def opDm : List D → Sto → R D := fun xs s => match xs with
  | [.int i, .int j] => if divB i j then .ok (.tup [.int (i.fdiv j), .int (i.fmod j)]) s else .bad
  | _ => .bad
def opGcd : List D → Sto → R D := fun xs s => match xs with
  | [.int i, .int j] => .ok (.int ((Nat.gcd i.natAbs j.natAbs : Nat) : Int)) s
  | _ => .bad
theorem do_abs : DoN X opAbs (fun xs H Q => ∃ i, xs = [.int i] ∧ Q (.int (if i < 0 then -i else i)) H) := by
  intro xs s ξ ρ H vs Q hr r w
  unfold opAbs at w
  split at w
  · obtain ⟨v, rfl, q⟩ := r.one
    cases q
    exact ⟨_, rfl, w ρ H _ (.refl _ _) hr (.int _)⟩
  · exact w.elim
theorem do_max : DoN X opMax (fun xs H Q => ∃ i j, xs = [.int i, .int j] ∧ Q (.int (if j > i then j else i)) H) := by
  intro xs s ξ ρ H vs Q hr r w
  unfold opMax at w
  split at w
  · obtain ⟨v, u, rfl, q, q2⟩ := r.two
    cases q; cases q2
    exact ⟨_, _, rfl, w ρ H _ (.refl _ _) hr (.int _)⟩
  · exact w.elim
theorem do_min : DoN X opMin (fun xs H Q => ∃ i j, xs = [.int i, .int j] ∧ Q (.int (if j < i then j else i)) H) := by
  intro xs s ξ ρ H vs Q hr r w
  unfold opMin at w
  split at w
  · obtain ⟨v, u, rfl, q, q2⟩ := r.two
    cases q; cases q2
    exact ⟨_, _, rfl, w ρ H _ (.refl _ _) hr (.int _)⟩
  · exact w.elim
theorem do_int : DoN X opInt (fun xs H Q => (∃ i, xs = [.int i] ∧ Q (.int i) H) ∨ ∃ k, xs = [.bl k] ∧ Q (.int (if k then 1 else 0)) H) := by
  intro xs s ξ ρ H vs Q hr r w
  unfold opInt at w
  split at w
  · obtain ⟨v, rfl, q⟩ := r.one
    cases q
    exact .inl ⟨_, rfl, w ρ H _ (.refl _ _) hr (.int _)⟩
  · obtain ⟨v, rfl, q⟩ := r.one
    cases q
    exact .inr ⟨_, rfl, w ρ H _ (.refl _ _) hr (.int _)⟩
  · exact w.elim
def rDm : List V → Hp → VK → Prop := fun xs H Q => ∃ i j, xs = [.int i, .int j] ∧ divB i j = true ∧ ∀ p, H p = none → Q (.ref p) (upd H p (.tup [.int (i.fdiv j), .int (i.fmod j)]))
theorem call_dmA : CallR X (.builtin "divmod") rDm := by
  intro pins s σ H xs us Q I r ⟨i, j, ex, hd, q⟩
  subst ex
  unfold divB at hd
  rw [Bool.and_eq_true] at hd
  obtain ⟨u, w', rfl, ⟨t, rfl⟩, ⟨t', rfl⟩⟩ := vals2 r
  refine divmod_int (of_decide_eq_true hd.1) ?_ (.inl (PyProof.noPylong_of_log2 (of_decide_eq_true hd.2)))
  exact ⟨.ref s.heap.objs.size, _, I.laid (o := .tup [.int (i.fdiv j), .int (i.fmod j)]) (fun b o e => Heap.get?_push_of_some _ e) (Nat.le_refl _) ⟨line1000 (by simp), [.int (i.fdiv j) s.toks, .int (i.fmod j) (s.toks + 1)], .cons ⟨_, rfl⟩ (.cons ⟨_, rfl⟩ .nil), ⟨_, Heap.get?_push_size s.heap rfl, rfl, 0, rfl⟩⟩, rfl, q _ (I.hok.fresh (Nat.le_refl _))⟩
theorem do_dm : DoN X opDm rDm := by
  intro xs s ξ ρ H vs Q hr r w
  unfold opDm at w
  split at w
  · rename_i i j
    obtain ⟨v, u, rfl, q, q2⟩ := r.two
    cases q; cases q2
    by_cases z : divB i j = true
    · rw [if_pos z] at w
      exact ⟨i, j, rfl, z, fun p hp => newT_ok hr hp (line1000 (by simp)) (.cons (.int _) (.cons (.int _) .nil)) w⟩
    · rw [if_neg z] at w; exact w.elim
  · exact w.elim
theorem do_gcd : DoN X opGcd rGcd := by
  intro xs s ξ ρ H vs Q hr r w
  unfold opGcd at w
  split at w
  · obtain ⟨v, u, rfl, q, q2⟩ := r.two
    cases q; cases q2
    exact ⟨_, _, rfl, w ρ H _ (.refl _ _) hr (.int _)⟩
  · exact w.elim
/-- a list of truths, of ints -/
def bls : List D → Option (List Bool)
  | [] => some []
  | .bl b :: r => match bls r with
    | some bs => some (b :: bs)
    | none => none
  | _ => none
def intsD : List D → Option (List Int)
  | [] => some []
  | .int b :: r => match intsD r with
    | some bs => some (b :: bs)
    | none => none
  | _ => none
def strsD : List D → Option (List Str)
  | [] => some []
  | .str b :: r => match strsD r with
    | some bs => some (b :: bs)
    | none => none
  | _ => none
theorem bls_eq : ∀ {ds : List D} {bs : List Bool}, bls ds = some bs → ds = bs.map D.bl
  | [], bs, h => by cases h; rfl
  | .bl b :: r, bs, h => by
    have h' : (match bls r with | some bs => some (b :: bs) | none => none) = some bs := h
    cases e : bls r with
    | none => rw [e] at h'; cases h'
    | some cs => rw [e] at h'; cases h'; rw [bls_eq e]; rfl
  | .non :: _, _, h => nomatch h
  | .int _ :: _, _, h => nomatch h
  | .str _ :: _, _, h => nomatch h
  | .tup _ :: _, _, h => nomatch h
  | .lst _ :: _, _, h => nomatch h
  | .ro _ :: _, _, h => nomatch h
  | .dct _ :: _, _, h => nomatch h
  | .ref _ :: _, _, h => nomatch h
  | .fn _ :: _, _, h => nomatch h
  | .err _ _ :: _, _, h => nomatch h
theorem intsD_eq : ∀ {ds : List D} {bs : List Int}, intsD ds = some bs → ds = bs.map D.int
  | [], bs, h => by cases h; rfl
  | .int b :: r, bs, h => by
    have h' : (match intsD r with | some bs => some (b :: bs) | none => none) = some bs := h
    cases e : intsD r with
    | none => rw [e] at h'; cases h'
    | some cs => rw [e] at h'; cases h'; rw [intsD_eq e]; rfl
  | .non :: _, _, h => nomatch h
  | .bl _ :: _, _, h => nomatch h
  | .str _ :: _, _, h => nomatch h
  | .tup _ :: _, _, h => nomatch h
  | .lst _ :: _, _, h => nomatch h
  | .ro _ :: _, _, h => nomatch h
  | .dct _ :: _, _, h => nomatch h
  | .ref _ :: _, _, h => nomatch h
  | .fn _ :: _, _, h => nomatch h
  | .err _ _ :: _, _, h => nomatch h
theorem strsD_eq : ∀ {ds : List D} {bs : List Str}, strsD ds = some bs → ds = bs.map D.str
  | [], bs, h => by cases h; rfl
  | .str b :: r, bs, h => by
    have h' : (match strsD r with | some bs => some (b :: bs) | none => none) = some bs := h
    cases e : strsD r with
    | none => rw [e] at h'; cases h'
    | some cs => rw [e] at h'; cases h'; rw [strsD_eq e]; rfl
  | .non :: _, _, h => nomatch h
  | .bl _ :: _, _, h => nomatch h
  | .int _ :: _, _, h => nomatch h
  | .tup _ :: _, _, h => nomatch h
  | .lst _ :: _, _, h => nomatch h
  | .ro _ :: _, _, h => nomatch h
  | .dct _ :: _, _, h => nomatch h
  | .ref _ :: _, _, h => nomatch h
  | .fn _ :: _, _, h => nomatch h
  | .err _ _ :: _, _, h => nomatch h
/-- a function of one list of truths (of ints) -/
def opBls (g : List Bool → D) : List D → Sto → R D := fun xs s => match xs with
  | [x] => match seqD x s with
    | some ds => match bls ds with
      | some bs => .ok (g bs) s
      | none => .bad
    | none => .bad
  | _ => .bad
def opInts (g : List Int → D) : List D → Sto → R D := fun xs s => match xs with
  | [x] => match seqD x s with
    | some ds => match intsD ds with
      | some bs => .ok (g bs) s
      | none => .bad
    | none => .bad
  | _ => .bad
theorem do_bls {g : List Bool → D} {gv : List Bool → V} (hg : ∀ ξ ρ H bs, Rp (X.kx ξ) ρ H (gv bs) (g bs)) : DoN X (opBls g) (fun vs H Q => ∃ (a : Addr) (bs : List Bool), vs = [V.ref a] ∧ SqL X.K H a (bs.map V.bl) ∧ Q (gv bs) H) := by
  intro xs s ξ ρ H vs Q hr r w
  unfold opBls at w
  split at w
  · rename_i x
    obtain ⟨v, rfl, q⟩ := r.one
    cases e : seqD x s with
    | none => rw [e] at w; exact w.elim
    | some ds =>
      rw [e] at w
      have w' : (match bls ds with | some bs => R.ok (g bs) s | none => .bad).wp _ := w
      cases e2 : bls ds with
      | none => rw [e2] at w'; exact w'.elim
      | some bs =>
        rw [e2] at w'
        obtain ⟨p, ys, rfl, h1, z, q1⟩ := seqD_ok hr q e
        rw [bls_eq e2] at q1
        rw [q1.bls] at h1
        exact ⟨p, bs, rfl, h1, w' ρ H _ (.refl _ _) hr (hg ξ ρ H bs)⟩
  · exact w.elim
theorem do_ints {g : List Int → D} {gv : List Int → V} (hg : ∀ ξ ρ H bs, Rp (X.kx ξ) ρ H (gv bs) (g bs)) : DoN X (opInts g) (fun vs H Q => ∃ (a : Addr) (bs : List Int), vs = [V.ref a] ∧ SqL X.K H a (bs.map V.int) ∧ Q (gv bs) H) := by
  intro xs s ξ ρ H vs Q hr r w
  unfold opInts at w
  split at w
  · rename_i x
    obtain ⟨v, rfl, q⟩ := r.one
    cases e : seqD x s with
    | none => rw [e] at w; exact w.elim
    | some ds =>
      rw [e] at w
      have w' : (match intsD ds with | some bs => R.ok (g bs) s | none => .bad).wp _ := w
      cases e2 : intsD ds with
      | none => rw [e2] at w'; exact w'.elim
      | some bs =>
        rw [e2] at w'
        obtain ⟨p, ys, rfl, h1, z, q1⟩ := seqD_ok hr q e
        rw [intsD_eq e2] at q1
        rw [q1.ints] at h1
        exact ⟨p, bs, rfl, h1, w' ρ H _ (.refl _ _) hr (hg ξ ρ H bs)⟩
  · exact w.elim
/-- tuple(x), list(x) -/
def opTupOf : Op1 := fun x s => match x with
  | .tup ds => .ok (.tup ds) s
  | x => match seqD x s with
    | some ds => .ok (.tup ds) s
    | none => .bad
def opLstOf (m : Bool) : Op1 := fun x s => match x with
  | .tup ds => newL m ds s
  | x => match seqD x s with
    | some ds => newL m ds s
    | none => .bad
def rTupOf (K : PySem.W.Frag) : List V → Hp → VK → Prop := fun xs H Q => ∃ p ys, xs = [.ref p] ∧ ((SqL K H p ys ∧ ∀ l, H l = none → Q (.ref l) (upd H l (.tup ys))) ∨ (SqT K H p ys ∧ Q (.ref p) H))
def rLstOf (K : PySem.W.Frag) : List V → Hp → VK → Prop := fun xs H Q => ∃ p ys, xs = [.ref p] ∧ (SqL K H p ys ∨ SqT K H p ys) ∧ ∀ l, H l = none → Q (.ref l) (upd H l (.lst ys))
theorem do_tupOf : Do1 X opTupOf (fun v H Q => rTupOf X.K [v] H Q) := by
  intro x s ξ ρ H v Q hr r1 w
  have lists : (match seqD x s with
    | some ds => R.ok (D.tup ds) s
    | none => .bad).wp (fun d s' => ∀ ρ' H' v', Xt ρ H ρ' H' → Hr (X.kx ξ) ρ' H' s' → Rp (X.kx ξ) ρ' H' v' d → Q v' H') → rTupOf X.K [v] H Q := by
    intro w
    cases e : seqD x s with
    | none => rw [e] at w; exact w.elim
    | some ds =>
      rw [e] at w
      obtain ⟨p, ys, rfl, h1, z, q⟩ := seqD_ok hr r1 e
      exact ⟨p, ys, rfl, .inl ⟨h1, fun l hl => newT_ok hr hl z q w⟩⟩
  cases r1 with
  | tup f z q => exact ⟨_, _, rfl, .inr ⟨f.sq, w ρ H _ (.refl _ _) hr (.tup f z q)⟩⟩
  | _ => exact lists w
theorem do_lstOf (m : Bool) : Do1 X (opLstOf m) (fun v H Q => rLstOf X.K [v] H Q) := by
  intro x s ξ ρ H v Q hr r1 w
  have lists : (match seqD x s with
    | some ds => newL m ds s
    | none => .bad).wp (fun d s' => ∀ ρ' H' v', Xt ρ H ρ' H' → Hr (X.kx ξ) ρ' H' s' → Rp (X.kx ξ) ρ' H' v' d → Q v' H') → rLstOf X.K [v] H Q := by
    intro w
    cases e : seqD x s with
    | none => rw [e] at w; exact w.elim
    | some ds =>
      rw [e] at w
      obtain ⟨p, ys, rfl, h1, z, q⟩ := seqD_ok hr r1 e
      exact ⟨p, ys, rfl, .inl h1, fun l hl => newL_ok hr hl z q w⟩
  cases r1 with
  | tup f z q => exact ⟨_, _, rfl, .inr f.sq, fun l hl => newL_ok hr hl z q w⟩
  | _ => exact lists w
/-- str(n) -/
def opStr : List D → Sto → R D := fun xs s => match xs with
  | [.int i] => if i.natAbs.log2 < 1920 then .ok (.str (toString i)) s else .bad
  | _ => .bad
theorem do_str : DoN X opStr (fun xs H Q => ∃ i, xs = [.int i] ∧ i.natAbs.log2 < 1920 ∧ Q (.str (toString i)) H) := by
  intro xs s ξ ρ H vs Q hr r w
  unfold opStr at w
  split at w
  · rename_i i
    obtain ⟨v, rfl, q⟩ := r.one
    cases q
    by_cases z : i.natAbs.log2 < 1920
    · rw [if_pos z] at w
      exact ⟨_, rfl, z, w ρ H _ (.refl _ _) hr (.str _)⟩
    · rw [if_neg z] at w; exact w.elim
  · exact w.elim
/-- repr(x) -/
def shownB (p : PyData) : Bool := p.showable && decide (p.shown.length ≤ sizeLine) && decide (p.depth ≤ 64) && !p.hasDict
def opRepr : List D → Sto → R D := fun xs s => match xs with
  | [x] => match toPd x s with
    | some p => if shownB p then .ok (.str p.shown) s else .bad
    | none => .bad
  | _ => .bad
def rRepr (K : PySem.W.Frag) : List V → Hp → VK → Prop := fun xs H Q => ∃ x p, xs = [x] ∧ Dp K H x p ∧ shownB p = true ∧ Q (.str p.shown) H
theorem call_repr (hg : Gq X.A) (hu : X.A.units + 66 < cLine) : CallR X (.builtin "repr") (rRepr X.K) := by
  intro pins s σ H xs us Q I r ⟨x, p, ex, hp, hs, q⟩
  subst ex
  obtain ⟨u, rfl, ru⟩ := vals1 r
  unfold shownB at hs
  simp only [Bool.and_eq_true, decide_eq_true_eq] at hs
  obtain ⟨⟨⟨h1, h2⟩, h3⟩, h4⟩ := hs
  cases hp with
  | non =>
    cases ru
    simp only [PyData.shown] at q
    exact PySem.P.repr_of_none ⟨.str _, H, I.tok _, ⟨_, rfl⟩, q⟩
  | bl b =>
    cases ru
    simp only [PyData.shown] at q
    exact PySem.P.repr_of_bool ⟨.str _, H, I.tok _, ⟨_, rfl⟩, q⟩
  | int i =>
    obtain ⟨t, rfl⟩ := ru
    simp only [PyData.shown] at q
    simp only [PyData.showable, decide_eq_true_eq] at h1
    exact PySem.P.repr_of_int h1 ⟨.str _, H, I.tok _, ⟨_, rfl⟩, q⟩
  | str y =>
    obtain ⟨t, rfl⟩ := ru
    simp only [PyData.shown] at q h2
    exact PySem.P.repr_of_str ⟨.str _, H, I.tok _, ⟨_, rfl⟩, q⟩ h2
  | lst hq ha =>
    obtain ⟨as, hr⟩ := Dp.reads I _ _ u (.lst hq ha) ru
    cases ru
    exact repr_of_reads' hr h1 (fun hd => by rw [hd] at h4; exact absurd h4 (by decide)) hg (by omega) (fun _ _ e => e) (fun h' u tk hk => ⟨.str _, H, I.kept hk, ⟨u, rfl⟩, q⟩) h2
  | tup hq ha =>
    obtain ⟨as, hr⟩ := Dp.reads I _ _ u (.tup hq ha) ru
    cases ru
    exact repr_of_reads' hr h1 (fun hd => by rw [hd] at h4; exact absurd h4 (by decide)) hg (by omega) (fun _ _ e => e) (fun h' u tk hk => ⟨.str _, H, I.kept hk, ⟨u, rfl⟩, q⟩) h2
theorem do_repr : DoN X opRepr (rRepr X.K) := by
  intro xs s ξ ρ H vs Q hr r w
  unfold opRepr at w
  split at w
  · rename_i x
    obtain ⟨v, rfl, q⟩ := r.one
    cases e : toPd x s with
    | none => rw [e] at w; exact w.elim
    | some p =>
      rw [e] at w
      have w' : (if shownB p = true then R.ok (D.str p.shown) s else .bad).wp _ := w
      by_cases z : shownB p = true
      · rw [if_pos z] at w'
        exact ⟨v, p, rfl, toPd_ok hr q e, z, w' ρ H _ (.refl _ _) hr (.str _)⟩
      · rw [if_neg z] at w'; exact w'.elim
  · exact w.elim
end
end Rf
set_option maxHeartbeats 4000000
namespace Rf
open PySem PySem.Spec L2
open PyProof.Rows hiding St
/-! ## calls of defs -/
def mCall (F : Fn) (id : Nat) (arr : List Src) (ma : MA) : ME := fun env st => (ma env st).bd fun ds s => F id (arr.map (Src.get ds)) s
def mCallK (F : Fn) (id : Nat) (arr : List Src) (ma mk : MA) : ME := fun env st => (ma env st).bd fun ds s => (mk env s).bd fun ks s' => F id (arr.map (Src.get (ds ++ ks))) s'
section
variable {X : Cx} {K : Kx} {ρ : List Addr} {H : Hp}
theorem Vals.appd {vs ws : List V} {us zs : List Value} (a : Vals vs us) (b : Vals ws zs) : Vals (vs ++ ws) (us ++ zs) := a.append b
theorem Rps.getD {vs : List V} {ds : List D} {us : List Value} {i : Nat} {z : Value} (r : Rps K ρ H vs ds) (rv : Vals vs us) (h : us[i]? = some z) : ∃ v, RelV v z ∧ Rp K ρ H v (ds.getD i .non) := by
  have hl : i < us.length := (List.getElem?_eq_some_iff.mp h).1
  have h1 : i < vs.length := by rw [rv.length]; exact hl
  have h2 : i < ds.length := by rw [← r.length]; exact h1
  obtain ⟨v, e1, q⟩ := r.get (List.getElem?_eq_getElem h2)
  obtain ⟨z', e2, q2⟩ := rv.get e1
  rw [h] at e2
  cases e2
  refine ⟨v, q2, ?_⟩
  rw [List.getD_eq_getElem?_getD, List.getElem?_eq_getElem h2]
  exact q
theorem arranged {vs : List V} {ds : List D} {us : List Value} (r : Rps K ρ H vs ds) (rv : Vals vs us) : ∀ {arr : List Src} {zs : List Value},
    Paired (fun (a : Src) (z : Value) => match a with | .at i => us[i]? = some z | .int i => ∃ t, z = .int i t) arr zs → ∃ ws, Vals ws zs ∧ Rps K ρ H ws (arr.map (Src.get ds)) ∧ ws.length = arr.length
  | _, _, .nil => ⟨[], .nil, .nil, rfl⟩
  | .at i :: arr, z :: zs, .cons h t => by
    obtain ⟨ws, h1, h2, h3⟩ := arranged r rv t
    obtain ⟨v, q1, q2⟩ := r.getD rv h
    exact ⟨v :: ws, .cons q1 h1, .cons q2 h2, by rw [List.length_cons, List.length_cons, h3]⟩
  | .int i :: arr, z :: zs, .cons ⟨t', e⟩ t => by
    obtain ⟨ws, h1, h2, h3⟩ := arranged r rv t
    subst e
    exact ⟨.int i :: ws, .cons ⟨t', rfl⟩ h1, .cons (.int i) h2, by rw [List.length_cons, List.length_cons, h3]⟩
end
section
variable {X : Cx} {F : Fn} {fi : Fi} {p pos : Pos} {es : List Expr} {ma mk : MA}
/-- what the arguments must come to, for the call -/
def CallQ (X : Cx) (F : Fn) (fi : Fi) (ξ ρ : List Addr) (H : Hp) (Q : VK) (vs : List V) (H1 : Hp) : Prop := ∃ ds ρ1 st1, Xt ρ H ρ1 H1 ∧ Hr (X.kx ξ) ρ1 H1 st1 ∧ Rps (X.kx ξ) ρ1 H1 vs ds ∧
  (F fi.id (fi.arr.map (Src.get ds)) st1).wp fun d st' => ∀ ρ' H' v, Xt ρ H ρ' H' → Hr (X.kx ξ) ρ' H' st' → Rp (X.kx ξ) ρ' H' v d → Q v H'
theorem call_fin {f : Addr} {fd : FuncData} {ps : List Str} {k : Nat} (hq : Gq X.A) (hr : Room k X.A) (Fo : Fg X.prog X.w X.K X.mg X.base k f fd ps (spF X.K F fi.id ps.length)) (hpl : ps.length = fi.arr.length)
    (hb : ∀ (s : Shared) (us ws : List Value), X.K.In s.heap → us.length = fi.np → ws.length = fi.kw.length → ∃ zs, BindsTo s fd ⟨us, fi.kw.zip ws⟩ (ps.zip zs) ∧
      Paired (fun (a : Src) (z : Value) => match a with | .at i => (us ++ ws)[i]? = some z | .int i => ∃ t, z = .int i t) fi.arr zs)
    {pins : List (Addr × Obj)} {σ : L2.St} {ξ ρ : List Addr} {H H1 : Hp} {Q : VK} {s1 : Shared} {us us2 : List Value} {vs vs2 : List V} (I1 : Inv X pins σ H1 s1) (rv : Vals vs us) (rv2 : Vals vs2 us2) (hl : us.length = fi.np) (hl2 : us2.length = fi.kw.length)
    (c : CallQ X F fi ξ ρ H Q (vs ++ vs2) H1) : wpAny (model X.prog X.w) X.A (call (.ref f) us (fi.kw.zip us2)) (EP X pins σ Q) X.xe s1 := by
  obtain ⟨ds, ρ1, st1, x1, h1, r1, w1⟩ := c
  obtain ⟨zs, hbd, hz⟩ := hb s1 us us2 I1.kIn hl hl2
  obtain ⟨ws, q1, q2, q3⟩ := arranged r1 (rv.append rv2) hz
  exact Fo.go hq hr hbd I1 q1 ⟨by rw [q3, hpl], ξ, ρ1, st1, _, q2, h1, R.wp_mono w1 fun d st' k ρ' H' v x2 => k ρ' H' v (x1.trans x2)⟩
theorem se_call {e : Expr} (W : Wf X F fi) (hq : Gq X.A) (hg : Gl X fi.nm) (hdb : (fi.nm == ("__debug__" : Str)) = false) (hk : fi.kw = []) (hn : (e :: es).length = fi.np) (hp : (e :: es).all plainArg = true) (ha : SA X (e :: es) ma) :
    SE X (.Call (.Name fi.nm p) (e :: es) [] pos) (mCall F fi.id fi.arr ma) := by
  obtain ⟨f, fd, ps, k, hm, hkp, hr, Fo, hpl, hb⟩ := W.ex
  rw [List.all_cons, Bool.and_eq_true] at hp
  intro ξ ρ H σ env st Q e0 hst w pins s I
  refine wpAny_Call_Name_kw (ld_glob I hg hm ?_ hdb)
  refine PySem.W.callWith_K (h₀ := X.base) I.ok.mod.kin hkp (thn (ha ξ ρ H σ env st (fun vs H1 => vs.length = fi.np ∧ CallQ X F fi ξ ρ H Q vs H1) e0 hst (R.wp_mono (R.wp_bd.mp w) fun ds st1 w1 ρ1 H1 vs x1 h1 r1 hl => ⟨hl.trans hn, ds, ρ1, st1, x1, h1, r1, w1⟩) pos pins s I) fun us s1 ⟨vs, H1, I1, r, hl, q⟩ => ⟨I1.kIn, ?_⟩) (star_cons hp.1) (star_any hp.2)
  have q' : CallQ X F fi ξ ρ H Q (vs ++ []) H1 := by rw [List.append_nil]; exact q
  have z := call_fin hq hr Fo hpl hb I1 r .nil (by rw [← r.length, hl]) (by rw [hk]; rfl) q'
  rw [hk] at z
  exact z
theorem se_call0 (W : Wf X F fi) (hq : Gq X.A) (hg : Gl X fi.nm) (hdb : (fi.nm == ("__debug__" : Str)) = false) (hk : fi.kw = []) (hn : fi.np = 0) :
    SE X (.Call (.Name fi.nm p) [] [] pos) (mCall F fi.id fi.arr mNil) := by
  obtain ⟨f, fd, ps, k, hm, hkp, hr, Fo, hpl, hb⟩ := W.ex
  intro ξ ρ H σ env st Q e0 hst w pins s I
  refine wpAny_Call_Name_kw (ld_glob I hg hm ?_ hdb)
  have w' : (F fi.id (fi.arr.map (Src.get [])) st).wp _ := w
  have z := call_fin hq hr Fo hpl hb I .nil .nil (by rw [hn]; rfl) (by rw [hk]; rfl) (ξ := ξ) (ρ := ρ) (H := H) (Q := Q) ⟨[], ρ, st, .refl _ _, hst, .nil, R.wp_mono w' fun d st' k => k⟩
  rw [hk] at z
  exact PySem.W.callWith_K0 I.kIn hkp z
/-! ### arguments by name -/
def RK (X : Cx) (kws : List Keyword) : TA := fun σ H Q => ∀ (pos : Pos) (pins : List (Addr × Obj)) (s : Shared), Inv X pins σ H s → wpAny (model X.prog X.w) X.A (evalAll ((backToKw pos (keywordEach kws X.env)).map (·.2))) (AP X pins σ Q) X.xe s
theorem pk_rk {X : Cx} {kws : List Keyword} : PK X kws (RK X kws) := ⟨fun pos pins s _ _ _ I h => h pos pins s I⟩
theorem _root_.L2.PK.rk {X : Cx} {kws : List Keyword} {t : TA} (h : PK X kws t) {σ : L2.St} {H : Hp} {Q : List V → Hp → Prop} (q : t σ H Q) : RK X kws σ H Q := fun pos pins s I => h.run pos pins s σ H Q I q
def SK (X : Cx) (kws : List Keyword) (m : MA) : Prop := ∀ (ξ ρ : List Addr) (H : Hp) (σ : L2.St) (env : Ev) (st : Sto) (Q : List V → Hp → Prop), Er (X.kx ξ) ρ H σ env → Hr (X.kx ξ) ρ H st →
  (m env st).wp (fun ds st' => ∀ ρ' H' vs, Xt ρ H ρ' H' → Hr (X.kx ξ) ρ' H' st' → Rps (X.kx ξ) ρ' H' vs ds → vs.length = kws.length → Q vs H') → RK X kws σ H Q
theorem sk_nil : SK X [] mNil := fun ξ ρ H σ env st Q _ hr w => pk_nil.rk (w ρ H [] (.refl _ _) hr .nil rfl)
theorem sk_cons {n : Option Str} {e : Expr} {kp : Pos} {kws : List Keyword} {m : ME} {mr : MA} (ha : SE X e m) (hr : SK X kws mr) : SK X (⟨n, e, kp⟩ :: kws) (mCons m mr) := fun ξ ρ H σ env st Q e0 h w => by
  refine (pk_cons pe_re pk_rk).rk ?_
  refine ha ξ ρ H σ env st _ e0 h (R.wp_mono (R.wp_bd.mp w) fun x s w1 ρ1 H1 v x1 h1 r1 => ?_)
  refine hr ξ ρ1 H1 σ env s _ (e0.xt x1) h1 (R.wp_mono (R.wp_bd.mp w1) fun xs s2 w2 ρ2 H2 vs x2 h2 r2 hl => ?_)
  exact w2 ρ2 H2 (v :: vs) (x1.trans x2) h2 (.cons (r1.xt x2) r2) (by rw [List.length_cons, List.length_cons, hl])
def kwNames (kws : List Keyword) : List Str := kws.filterMap fun k => k.arg
theorem kw_all {env : Env} : ∀ {kws : List Keyword}, (kws.all fun k => k.arg.isSome) = true → (backToKw pos (keywordEach kws env)).all (·.1.isSome) = true ∧ (backToKw pos (keywordEach kws env)).any (·.1.isNone) = false
  | [], _ => ⟨rfl, rfl⟩
  | ⟨n, e, kp⟩ :: kws, h => by
    rw [List.all_cons, Bool.and_eq_true] at h
    obtain ⟨h1, h2⟩ := kw_all (kws := kws) (env := env) h.2
    cases n with
    | none => cases h.1
    | some n => exact ⟨h1, h2⟩
theorem kw_names {env : Env} : ∀ {kws : List Keyword}, (backToKw pos (keywordEach kws env)).filterMap (·.1) = kwNames kws
  | [] => rfl
  | ⟨n, e, kp⟩ :: kws => by
    have ih := kw_names (kws := kws) (env := env)
    cases n with
    | none => exact ih
    | some n =>
      show n :: (backToKw pos (keywordEach kws env)).filterMap (·.1) = n :: kwNames kws
      rw [ih]
theorem se_callK {e : Expr} {kws : List Keyword} (W : Wf X F fi) (hq : Gq X.A) (hg : Gl X fi.nm) (hdb : (fi.nm == ("__debug__" : Str)) = false) (hk : kwNames kws = fi.kw) (hks : (kws.all fun k => k.arg.isSome) = true) (hn : (e :: es).length = fi.np) (hp : (e :: es).all plainArg = true)
    (hkl : kws.length = fi.kw.length) (ha : SA X (e :: es) ma) (hkw : SK X kws mk) : SE X (.Call (.Name fi.nm p) (e :: es) kws pos) (mCallK F fi.id fi.arr ma mk) := by
  obtain ⟨f, fd, ps, k, hm, hkp, hr, Fo, hpl, hb⟩ := W.ex
  have hp' := hp
  rw [List.all_cons, Bool.and_eq_true] at hp
  intro ξ ρ H σ env st Q e0 hst w pins s I
  refine wpAny_Call_Name_kw (ld_glob I hg hm ?_ hdb)
  refine PySem.W.callWith_KW (h₀ := X.base) I.ok.mod.kin hkp (kw_all hks).1 (thn (ha ξ ρ H σ env st (fun vs H1 => vs.length = fi.np ∧ RK X kws σ H1 fun vs2 H2 => vs2.length = fi.kw.length ∧ CallQ X F fi ξ ρ H Q (vs ++ vs2) H2) e0 hst
    (R.wp_mono (R.wp_bd.mp w) fun ds st1 w1 ρ1 H1 vs x1 h1 r1 hl => ⟨hl.trans hn, hkw ξ ρ1 H1 σ env st1 _ (e0.xt x1) h1 (R.wp_mono (R.wp_bd.mp w1) fun ks st2 w2 ρ2 H2 vs2 x2 h2 r2 hl2 => ⟨hl2.trans hkl, ds ++ ks, ρ2, st2, x1.trans x2, h2, (Rps.xt x2 _ _ r1).app r2,
      R.wp_mono w2 fun d st' k ρ' H' v x3 => k ρ' H' v x3⟩)⟩) pos pins s I) fun us s1 ⟨vs, H1, I1, r, hl, q⟩ => thn (q pos pins s1 I1) fun ws s2 ⟨vs2, H2, I2, r2, hl2, q2⟩ => ⟨I2.kIn, ?_⟩) (by rw [star_any hp', (kw_all hks).2]; rfl) (star_cons hp.1)
  rw [kw_names, hk]
  exact call_fin hq hr Fo hpl hb I2 r r2 (show us.length = fi.np by rw [← r.length, hl]) (by rw [← r2.length, hl2]) q2
theorem se_callK0 {kws : List Keyword} (W : Wf X F fi) (hq : Gq X.A) (hg : Gl X fi.nm) (hdb : (fi.nm == ("__debug__" : Str)) = false) (hk : kwNames kws = fi.kw) (hks : (kws.all fun k => k.arg.isSome) = true) (hn : fi.np = 0)
    (hkl : kws.length = fi.kw.length) (hkw : SK X kws mk) : SE X (.Call (.Name fi.nm p) [] kws pos) (mCallK F fi.id fi.arr mNil mk) := by
  obtain ⟨f, fd, ps, k, hm, hkp, hr, Fo, hpl, hb⟩ := W.ex
  intro ξ ρ H σ env st Q e0 hst w pins s I
  refine wpAny_Call_Name_kw (ld_glob I hg hm ?_ hdb)
  have w' : (mk env st).wp fun ks st' => (F fi.id (fi.arr.map (Src.get ([] ++ ks))) st').wp fun d st' => ∀ ρ' H' v, Xt ρ H ρ' H' → Hr (X.kx ξ) ρ' H' st' → Rp (X.kx ξ) ρ' H' v d → Q v H' := R.wp_bd.mp w
  refine PySem.W.callWith_KW0 (h₀ := X.base) I.ok.mod.kin hkp (kw_all hks).1 (thn (hkw ξ ρ H σ env st (fun vs2 H2 => vs2.length = fi.kw.length ∧ CallQ X F fi ξ ρ H Q ([] ++ vs2) H2) e0 hst
    (R.wp_mono w' fun ks st2 w2 ρ2 H2 vs2 x2 h2 r2 hl2 => ⟨hl2.trans hkl, ks, ρ2, st2, x2, h2, r2, w2⟩) pos pins s I) fun ws s2 ⟨vs2, H2, I2, r2, hl2, q2⟩ => ⟨I2.kIn, ?_⟩) (by rw [(kw_all hks).2]; rfl)
  rw [kw_names, hk]
  exact call_fin hq hr Fo hpl hb I2 .nil r2 (by rw [hn]; rfl) (by rw [← r2.length, hl2]) q2
end
end Rf
set_option maxHeartbeats 4000000
namespace Rf
open PySem PySem.Spec L2
open PyProof.Rows hiding St
/-! ## what a loop walks -/
/-- more places are kept apart, all of them new -/
structure Mre (K K' : Kx) (H : Hp) : Prop where
  k : K'.K = K.K
  s : ∀ a, a ∈ K'.ex → a ∈ K.ex ∨ H a = none
section
variable {K K' : Kx} {ρ ρ' : List Addr} {H H' : Hp}
theorem Mre.fr (m : Mre K K' H) {a : Addr} {u : HO} (f : Fr1 K ρ a) (h : Rd H a u) : Fr1 K' ρ a := ⟨f.1, fun q => by
  rcases m.s a q with z | z
  · exact f.2 z
  · rcases h with h | ⟨o, h⟩ <;> rw [z] at h <;> cases h⟩
theorem Mre.ft (m : Mre K K' H) {a : Addr} {xs : List V} (h : FT K ρ H a xs) : FT K' ρ H a xs := h.imp (fun z => ⟨m.fr z.1 z.2, z.2⟩) fun z => by rw [m.k]; exact z
theorem Mre.fl (m : Mre K K' H) {a : Addr} {xs : List V} (h : FL K ρ H a xs) : FL K' ρ H a xs := h.imp (fun z => ⟨m.fr z.1 z.2, z.2⟩) fun z => by rw [m.k]; exact z
mutual
theorem Rp.more (m : Mre K K' H) : ∀ (d : D) (v : V), Rp K ρ H v d → Rp K' ρ H v d
  | _, _, .non => .non
  | _, _, .bl b => .bl b
  | _, _, .int i => .int i
  | _, _, .str y => .str y
  | .tup ds, _, .tup h z r => .tup (m.ft h) z (Rps.more m ds _ r)
  | .lst ds, _, .lst n h z r => .lst (m.fr n (.inl h)) h z (Rps.more m ds _ r)
  | .ro ds, _, .ro h z r => .ro (m.fl h) z (Rps.more m ds _ r)
  | _, _, .ref h => .ref h
  | _, _, .dct n h => .dct (m.fr n (.inl h)) h
theorem Rps.more (m : Mre K K' H) : ∀ (ds : List D) (vs : List V), Rps K ρ H vs ds → Rps K' ρ H vs ds
  | [], _, .nil => .nil
  | d :: ds, _, .cons h r => .cons (Rp.more m d _ h) (Rps.more m ds _ r)
end
theorem Er.more (m : Mre K K' H) {σ : L2.St} {env : Ev} (h : Er K ρ H σ env) : Er K' ρ H σ env := ⟨h.len, fun i d e => let ⟨v, h1, h2⟩ := h.at_ i d e; ⟨v, h1, Rp.more m d v h2⟩⟩
theorem Er.less (l : Lss K K') {σ : L2.St} {env : Ev} (h : Er K ρ H σ env) : Er K' ρ H σ env := ⟨h.len, fun i d e => let ⟨v, h1, h2⟩ := h.at_ i d e; ⟨v, h1, Rp.less l d v h2⟩⟩
theorem Hr.less (l : Lss K K') {st : Sto} (h : Hr K ρ H st) : Hr K' ρ H st := ⟨h.len, h.nd, fun a q => h.exl a (l.s a q), fun a q => h.exd a (l.s a q), fun n a o e1 e2 => by
  have q := h.ob n a o e1 e2
  cases o with
  | lst ds => obtain ⟨xs, a1, a2, a3⟩ := q; exact ⟨xs, a1, a2, Rps.less l _ _ a3⟩
  | dct => exact q
  | ins => exact q⟩
end
/-- the list that a loop walks still stands in the store as it was -/
inductive Gk where
  | one (n : Nat)
  | many (l : List (Nat × List D))
def gst (o : Option Gk) (ds : List D) (st : Sto) : Prop := match o with
  | none => True
  | some (.one n) => st[n]? = some (.lst ds)
  | some (.many l) => ∀ p ∈ l, st[p.1]? = some (.lst p.2)
structure Itok (K : Kx) (ρ : List Addr) (H : Hp) (J : It) (ds : List D) (o : Option Gk) : Prop where
  len : ds.length ≤ sizeLine
  go : ∀ (K' : Kx) (ρ2 : List Addr) (H2 : Hp) (st2 : Sto), Xt ρ H ρ2 H2 → Mre K K' H → Hr K' ρ2 H2 st2 → gst o ds st2 → ∀ (i : Nat) (d : D), ds[i]? = some d → J.go i H2 ∧ ∀ x H3, J.yld i H2 x H3 → Same H2 H3 ∧ Rp K' ρ2 H3 x d
  stop : ∀ (K' : Kx) (ρ2 : List Addr) (H2 : Hp) (st2 : Sto), Xt ρ H ρ2 H2 → Mre K K' H → Hr K' ρ2 H2 st2 → gst o ds st2 → ∀ i : Nat, i = ds.length → J.stop i H2
abbrev MI := Ev → Sto → R (List D × Option Gk)
def SI (X : Cx) (tg it : Expr) (m : MI) : Prop := ∀ (ξ ρ : List Addr) (H : Hp) (σ : L2.St) (env : Ev) (st : Sto) (Z : It → Hp → Prop), Er (X.kx ξ) ρ H σ env → Hr (X.kx ξ) ρ H st →
  (m env st).wp (fun p st' => ∀ ρ' H' J, Xt ρ H ρ' H' → Hr (X.kx ξ) ρ' H' st' → Itok (X.kx ξ) ρ' H' J p.1 p.2 → Z J H') → RI X tg it σ H Z
/-! ### a value walked -/
def strItems (x : Str) : List D := x.cps.toList.map fun c => .str ⟨#[c]⟩
def itemsD (x : D) (s : Sto) : Option (List D × Option Gk) := match x with
  | .tup ds => some (ds, none)
  | .lst ds => some (ds, none)
  | .ro ds => some (ds, none)
  | .str z => if z.length ≤ sizeLine then some (strItems z, none) else none
  | .ref n => match s[n]? with
    | some (.lst ds) => some (ds, some (.one n))
    | _ => none
  | _ => none
def mIt (a : ME) : MI := fun env st => (a env st).bd fun x s => match itemsD x s with
  | some p => .ok p s
  | none => .bad
/-- by values -/
def PV (X : Cx) (tg : Expr) (w : V → Hp → (It → Hp → Prop) → Prop) : Prop := ∀ (pins : List (Addr × Obj)) (s : Shared) (σ : L2.St) (H : Hp) (v : V) (u : Value) (Z : It → Hp → Prop), Inv X pins σ H s → RelV v u → w v H Z → wpAny (model X.prog X.w) X.A (pyIter u) (PIE X pins σ tg Z) X.xe s
section
variable {X : Cx} {tg : Expr}
theorem PV.or {w w' : V → Hp → (It → Hp → Prop) → Prop} (h : PV X tg w) (h' : PV X tg w') : PV X tg (fun v H Z => w v H Z ∨ w' v H Z) := fun pins s σ H v u Z I r q => q.elim (h pins s σ H v u Z I r) (h' pins s σ H v u Z I r)
theorem PV.pi {e : Expr} {t : TE} {w : V → Hp → (It → Hp → Prop) → Prop} (he : PE X e t) (h : PV X tg w) : PI X tg e (fun σ H Z => t σ H fun v H1 => w v H1 Z) := ⟨fun pins s σ H Z I q => thn (he.run pins s σ H _ I q) fun u s1 ⟨v, H1, I1, r, q1⟩ => h pins s1 σ H1 v u Z I1 r q1⟩
theorem pv_list : PV X tg (fun v H Z => ∃ a, v = .ref a ∧ (∃ xs, SqL X.K H a xs) ∧ Z (Itl X.K a) H) := by
  rintro pins s σ H v u Z I r ⟨a, rfl, ⟨xs, hq⟩, q⟩
  cases r
  obtain ⟨its, _, p, _⟩ := I.list hq
  exact wpAny_pyIter_list p.isList (pi_one (tk := s.toks) I _ (turn_list a _) ⟨_, Heap.get?_push_size _ rfl, rfl, rfl⟩ q)
theorem pv_tup : PV X tg (fun v H Z => ∃ a, v = .ref a ∧ (∃ xs, SqT X.K H a xs) ∧ Z (Itt X.K a) H) := by
  rintro pins s σ H v u Z I r ⟨a, rfl, ⟨xs, hq⟩, q⟩
  cases r
  obtain ⟨its, _, p, _⟩ := I.tuple hq
  exact wpAny_pyIter_tuple (show s.heap.IsTuple a its.toArray from p) (pi_one (tk := s.toks) I _ (turn_tuple a _) ⟨_, Heap.get?_push_size _ rfl, rfl, rfl⟩ q)
theorem pv_str : PV X tg (fun v H Z => ∃ x, v = .str x ∧ Z (Its x) H) := by
  rintro pins s σ H v u Z I r ⟨x, rfl, q⟩
  obtain ⟨t, rfl⟩ := r
  cases ha : x.cps.all (· < 128)
  · exact wpAny_pyIter_wide ha (pi_one (tk := s.toks) I _ (turn_str _ x t "str_iterator" (.inr rfl)) ⟨_, Heap.get?_push_size _ rfl, rfl, rfl⟩ q)
  · exact wpAny_pyIter_ascii ha (pi_one (tk := s.toks) I _ (turn_str _ x t "str_ascii_iterator" (.inl rfl)) ⟨_, Heap.get?_push_size _ rfl, rfl, rfl⟩ q)
end
/-- a list's walk, where it lies (frozen, or in the store) -/
theorem itok_list {K : Kx} {ρ : List Addr} {H : Hp} {a : Addr} {ds : List D} {o : Option Gk} (h : ∀ (K' : Kx) (ρ2 : List Addr) (H2 : Hp) (st2 : Sto), Xt ρ H ρ2 H2 → Mre K K' H → Hr K' ρ2 H2 st2 → gst o ds st2 → ∃ xs, SqL K.K H2 a xs ∧ Rps K' ρ2 H2 xs ds) (hl : ds.length ≤ sizeLine) : Itok K ρ H (Itl K.K a) ds o where
  len := hl
  go := fun K' ρ2 H2 st2 x m hr g i d hd => by
    obtain ⟨xs, hq, r⟩ := h K' ρ2 H2 st2 x m hr g
    obtain ⟨v, hv, rv⟩ := r.get hd
    refine ⟨⟨xs, v, hq, hv⟩, ?_⟩
    rintro y H3 ⟨rfl, hy⟩
    have e := hy xs hq
    rw [hv] at e
    cases e
    exact ⟨Same.refl _, rv⟩
  stop := fun K' ρ2 H2 st2 x m hr g i hi => by
    obtain ⟨xs, hq, r⟩ := h K' ρ2 H2 st2 x m hr g
    exact ⟨xs, hq, by rw [r.length]; exact Nat.le_of_eq hi.symm⟩
theorem itok_tup {K : Kx} {ρ : List Addr} {H : Hp} {a : Addr} {xs : List V} {ds : List D} (f : FT K ρ H a xs) (r : Rps K ρ H xs ds) (hl : xs.length ≤ sizeLine) : Itok K ρ H (Itt K.K a) ds none where
  len := by rw [← r.length]; exact hl
  go := fun K' ρ2 H2 st2 x m hr g i d hd => by
    have f2 : SqT K.K H2 a xs := (f.xt x).sq
    have r2 : Rps K' ρ2 H2 xs ds := Rps.xt x _ _ (Rps.more m _ _ r)
    obtain ⟨v, hv, rv⟩ := r2.get hd
    refine ⟨⟨xs, v, f2, hv⟩, ?_⟩
    rintro y H3 ⟨rfl, hy⟩
    have e := hy xs f2
    rw [hv] at e
    cases e
    exact ⟨Same.refl _, rv⟩
  stop := fun K' ρ2 H2 st2 x m hr g i hi => ⟨xs, (f.xt x).sq, by rw [r.length]; exact Nat.le_of_eq hi.symm⟩
theorem strItems_len (x : Str) : (strItems x).length = x.cps.size := by simp [strItems]
theorem itok_str {K : Kx} {ρ : List Addr} {H : Hp} (x : Str) (hl : x.length ≤ sizeLine) : Itok K ρ H (Its x) (strItems x) none where
  len := by rw [strItems_len]; exact hl
  go := fun K' ρ2 H2 st2 _ m hr g i d hd => by
    have hl : i < x.cps.size := by
      have := (List.getElem?_eq_some_iff.mp hd).1
      rw [strItems_len] at this
      exact this
    refine ⟨hl, ?_⟩
    rintro y H3 ⟨rfl, c, hc, rfl⟩
    unfold strItems at hd
    rw [List.getElem?_map] at hd
    have e : x.cps.toList[i]? = some c := by simpa using hc
    rw [e] at hd
    cases hd
    exact ⟨Same.refl _, .str _⟩
  stop := fun K' ρ2 H2 st2 _ m hr g i hi => by rw [strItems_len] at hi; exact Nat.le_of_eq hi.symm
/-- a value, whatever it is, that may be walked -/
def rWalk (K : PySem.W.Frag) : V → Hp → (It → Hp → Prop) → Prop := fun v H Z => (∃ a, v = .ref a ∧ (∃ xs, SqL K H a xs) ∧ Z (Itl K a) H) ∨ ((∃ a, v = .ref a ∧ (∃ xs, SqT K H a xs) ∧ Z (Itt K a) H) ∨ ∃ x, v = .str x ∧ Z (Its x) H)
theorem pv_walk {X : Cx} {tg : Expr} : PV X tg (rWalk X.K) := PV.or pv_list (PV.or pv_tup pv_str)
theorem itemsD_ok {K : Kx} {ρ : List Addr} {H : Hp} {v : V} {x : D} {s : Sto} {p : List D × Option Gk} {Z : It → Hp → Prop} (hr : Hr K ρ H s) (r : Rp K ρ H v x) (h : itemsD x s = some p) (k : ∀ J, Itok K ρ H J p.1 p.2 → Z J H) : rWalk K.K v H Z := by
  cases r with
  | tup f z q => cases h; exact .inr (.inl ⟨_, rfl, ⟨_, f.sq⟩, k _ (itok_tup f q z)⟩)
  | lst n f z q =>
    cases h
    exact .inl ⟨_, rfl, ⟨_, SqL.of f⟩, k _ (itok_list (fun K' ρ2 H2 st2 x m _ _ => ⟨_, SqL.of (x.keep _ _ n.1 f), Rps.xt x _ _ (Rps.more m _ _ q)⟩) (by rw [← q.length]; exact z))⟩
  | ro f z q =>
    cases h
    exact .inl ⟨_, rfl, ⟨_, f.sq⟩, k _ (itok_list (fun K' ρ2 H2 st2 x m _ _ => ⟨_, (f.xt x).sq, Rps.xt x _ _ (Rps.more m _ _ q)⟩) (by rw [← q.length]; exact z))⟩
  | str y =>
    have h' : (if y.length ≤ sizeLine then some (strItems y, (none : Option Gk)) else none) = some p := h
    by_cases hz : y.length ≤ sizeLine
    · rw [if_pos hz] at h'
      cases h'
      exact .inr (.inr ⟨y, rfl, k _ (itok_str y hz)⟩)
    · rw [if_neg hz] at h'
      cases h'
  | ref hn =>
    rename_i a n
    have h' : (match s[n]? with | some (.lst ds) => some (ds, some (.one n)) | _ => none) = some p := h
    cases e : s[n]? with
    | none => rw [e] at h'; cases h'
    | some o =>
      rw [e] at h'
      cases o with
      | lst ds =>
        cases h'
        obtain ⟨xs, h1, h2, h3⟩ := hr.ob n a _ hn e
        refine .inl ⟨a, rfl, ⟨xs, SqL.of h1⟩, k _ (itok_list (fun K' ρ2 H2 st2 x m hr2 g => ?_) (by rw [← h3.length]; exact h2))⟩
        obtain ⟨ys, g1, g2, g3⟩ := hr2.ob n a _ (x.get hn) g
        exact ⟨ys, SqL.of g1, g3⟩
      | dct => cases h'
      | ins => cases h'
  | _ => cases h
theorem si_val {X : Cx} {tg e : Expr} {m : ME} (h : SE X e m) : SI X tg e (mIt m) := fun ξ ρ H σ env st Z e0 hr w => by
  refine (PV.pi pe_re pv_walk).ri (h ξ ρ H σ env st _ e0 hr (R.wp_mono (R.wp_bd.mp w) fun x s w1 ρ1 H1 v x1 h1 r1 => ?_))
  cases e : itemsD x s with
  | none => rw [e] at w1; exact w1.elim
  | some p =>
    rw [e] at w1
    exact itemsD_ok h1 r1 e fun J hJ => w1 ρ1 H1 J x1 h1 hJ
/-! ### range -/
def rgI (a b : Int) : List D := (List.range (b - a).toNat).map fun i => .int (a + (i : Nat))
theorem rgI_len (a b : Int) : (rgI a b).length = (b - a).toNat := by simp [rgI]
@[irreducible] def rgB (a b : Int) : Bool := decide (-(2 ^ 62) ≤ a) && decide (a < 2 ^ 62) && decide (-(2 ^ 62) ≤ b) && decide (b < 2 ^ 62) && decide ((b - a).toNat ≤ 16777216)
def mRg (ma : MA) : MI := fun env st => (ma env st).bd fun xs s => match xs with
  | [.int b] => if rgB 0 b then .ok (rgI 0 b, none) s else .bad
  | [.int a, .int b] => if rgB a b then .ok (rgI a b, none) s else .bad
  | _ => .bad
theorem itok_rg {K : Kx} {ρ : List Addr} {H : Hp} {a b : Int} {n : Nat} (hn : n = (b - a).toNat) (hl : (b - a).toNat ≤ 16777216) : Itok K ρ H (Itr a n) (rgI a b) none where
  len := by rw [rgI_len, sizeLine_eq]; exact hl
  go := fun K' ρ2 H2 st2 _ m hr g i d hd => by
    have hl : i < n := by
      have := (List.getElem?_eq_some_iff.mp hd).1
      rw [rgI_len] at this
      omega
    refine ⟨hl, ?_⟩
    rintro y H3 ⟨rfl, rfl⟩
    unfold rgI at hd
    rw [List.getElem?_map, List.getElem?_range (by omega)] at hd
    cases hd
    exact ⟨Same.refl _, .int _⟩
  stop := fun K' ρ2 H2 st2 _ m hr g i hi => by
    rw [rgI_len] at hi
    show n ≤ i
    omega
section
variable {X : Cx} {tg : Expr} {G : Gi} {F : Fn} {p pos : Pos} {ma : MA}
theorem rgB_ok {a b : Int} (h : rgB a b = true) : -(2 ^ 62) ≤ a ∧ a < 2 ^ 62 ∧ -(2 ^ 62) ≤ b ∧ b < 2 ^ 62 ∧ (b - a).toNat ≤ 16777216 := by
  unfold rgB at h
  simp only [Bool.and_eq_true, decide_eq_true_eq] at h
  exact ⟨h.1.1.1.1, h.1.1.1.2, h.1.1.2, h.1.2, h.2⟩
theorem si_rg1 {a : Expr} (hg : Gl X "range") (hm : X.mg "range" = none) (hp : plainArg a = true) (h : SA X [a] ma) : SI X tg (.Call (.Name "range" p) [a] [] pos) (mRg ma) := fun ξ ρ H σ env st Z e0 hr w => by
  refine (pi_range1 hg hm pa_ra (star_cons hp)).ri (h ξ ρ H σ env st _ e0 hr (R.wp_mono (R.wp_bd.mp w) fun xs s w1 ρ1 H1 vs x1 h1 r1 hl => ?_))
  split at w1
  · rename_i b
    obtain ⟨v, rfl, q⟩ := r1.one
    cases q
    by_cases z : rgB 0 b = true
    · rw [if_pos z] at w1
      have zz := rgB_ok z
      exact ⟨b, rfl, zz.2.2.1, zz.2.2.2.1, w1 ρ1 H1 _ x1 h1 (itok_rg (by omega) zz.2.2.2.2)⟩
    · rw [if_neg z] at w1; exact w1.elim
  · have := r1.length
    rw [hl] at this
    cases this
  · exact w1.elim
theorem si_rg2 {a b : Expr} (hg : Gl X "range") (hm : X.mg "range" = none) (hp : plainArg a = true) (hp2 : plainArg b = true) (h : SA X [a, b] ma) : SI X tg (.Call (.Name "range" p) [a, b] [] pos) (mRg ma) := fun ξ ρ H σ env st Z e0 hr w => by
  refine (pi_range2 hg hm pa_ra (by rw [star_cons hp, star_cons hp2]; rfl) (star_cons hp2)).ri (h ξ ρ H σ env st _ e0 hr (R.wp_mono (R.wp_bd.mp w) fun xs s w1 ρ1 H1 vs x1 h1 r1 hl => ?_))
  split at w1
  · have := r1.length
    rw [hl] at this
    cases this
  · rename_i a b
    obtain ⟨v, u, rfl, q, q2⟩ := r1.two
    cases q; cases q2
    by_cases z : rgB a b = true
    · rw [if_pos z] at w1
      have zz := rgB_ok z
      exact ⟨a, b, rfl, ⟨zz.1, zz.2.1, zz.2.2.1, zz.2.2.2.1⟩, w1 ρ1 H1 _ x1 h1 (itok_rg rfl zz.2.2.2.2)⟩
    · rw [if_neg z] at w1; exact w1.elim
  · exact w1.elim
end
end Rf
set_option maxHeartbeats 4000000
namespace Rf
open PySem PySem.Spec L2
open PyProof.Rows hiding St
/-! ## pairs that are walked: zip, enumerate (over lists, tuples, texts that stay as they are) -/
inductive Knd where
  | l (a : Addr)
  | t (a : Addr)
  | s (x : Str)
def Knd.v : Knd → V
  | .l a => .ref a
  | .t a => .ref a
  | .s x => .str x
def Knd.sq (K : PySem.W.Frag) (H : Hp) : Knd → List V → Prop
  | .l a, vs => SqL K H a vs
  | .t a, vs => SqT K H a vs
  | .s x, vs => vs = x.cps.toList.map fun c => V.str ⟨#[c]⟩
def Knd.base : Knd → List Addr
  | .l a => [a]
  | .t a => [a]
  | .s _ => []
/-- the iterator's own cell, at the i-th turn -/
def Knd.pr (it : Addr) (u : Value) : Knd → Nat → Heap → Prop
  | .l a, i, h => h.IsListIter it a i
  | .t a, i, h => h.IsTupleIter it a i
  | .s x, i, h => ∃ t, u = .str x t ∧ h.IsStrIter it (strIterType x) x t i
def Knd.ob (u : Value) : Knd → Obj
  | .l _ => { cls := .type "list_iterator", data := .fields #[u, .int 0 0] }
  | .t _ => { cls := .type "tuple_iterator", data := .fields #[u, .int 0 0] }
  | .s x => { cls := .type (strIterType x), data := .fields #[u, .int 0 0] }
theorem Knd.free (u : Value) (k : Knd) : (k.ob u).isFreed = false := by cases k <;> rfl
theorem Knd.pr0 {it : Addr} {u : Value} {k : Knd} {h : Heap} (r : RelV k.v u) (e : h.get? it = some (k.ob u)) : k.pr it u 0 h := by
  cases k with
  | l a => cases r; exact ⟨_, e, rfl, rfl⟩
  | t a => cases r; exact ⟨_, e, rfl, rfl⟩
  | s x => obtain ⟨t, rfl⟩ := r; exact ⟨t, rfl, _, e, rfl, rfl⟩
theorem Knd.live {it : Addr} {u : Value} {k : Knd} {i : Nat} {h : Heap} (p : k.pr it u i h) : ∃ o, h.get? it = some o ∧ ∀ v, o.data ≠ .cell v := by
  cases k with
  | l a => obtain ⟨o, e, _, d⟩ := p; exact ⟨o, e, fun v z => by rw [d] at z; cases z⟩
  | t a => obtain ⟨o, e, _, d⟩ := p; exact ⟨o, e, fun v z => by rw [d] at z; cases z⟩
  | s x => obtain ⟨t, _, o, e, _, d⟩ := p; exact ⟨o, e, fun v z => by rw [d] at z; cases z⟩
theorem Knd.stay {it : Addr} {u : Value} {k : Knd} {i : Nat} {h h' : Heap} (p : k.pr it u i h) (q : ∀ o, h.get? it = some o → h'.get? it = some o) : k.pr it u i h' := by
  cases k with
  | l a => exact Heap.IsListIter.at p q
  | t a => exact Heap.IsTupleIter.at p q
  | s x => obtain ⟨t, rfl, o, e, r⟩ := p; exact ⟨t, rfl, o, q _ e, r⟩
theorem draws_by {P : Program} {w : World} {A : Around} {it : Addr} {fp : List Addr} {n : Nat} {Q Q' : Nat → Value → Prop} {St : Nat → Heap → Prop} (D : Draws P w A it fp n Q St) (h : ∀ i v, Q i v → Q' i v) : Draws P w A it fp n Q' St where
  live := D.live
  frame := D.frame
  item := fun i s R E hi st hR => D.item i s R E hi st fun x h' tk hp => hR x h' tk (h i x hp)
  done := D.done
section
variable {X : Cx} {pins : List (Addr × Obj)} {s : Shared} {σ : L2.St} {H : Hp}
theorem Knd.one (I : Inv X pins σ H s) {k : Knd} {xs ys : List V} (h : k.sq X.K H xs) (h' : k.sq X.K H ys) : xs = ys := by
  cases k with
  | l a => exact I.list_inj h h'
  | t a => exact I.tuple_inj h h'
  | s x => exact h.trans h'.symm
theorem vals_at {xs : List V} {us : List Value} (r : Vals xs us) {i : Nat} {u : Value} (h : us.toArray[i]? = some u) : ∃ x, xs[i]? = some x ∧ RelV x u := by
  have hi : i < us.length := by
    have := (Array.getElem?_eq_some_iff.mp h).1
    simpa using this
  have hl : i < xs.length := by rw [r.length]; exact hi
  obtain ⟨u', hu, ru⟩ := r.get (List.getElem?_eq_getElem hl)
  have e : us[i]? = some u := by simpa using h
  rw [hu] at e
  cases e
  exact ⟨_, List.getElem?_eq_getElem hl, ru⟩
/-- what an iterator over it draws -/
theorem Knd.drw (I : Inv X pins σ H s) (hc : X.calm = true) {k : Knd} {xs : List V} {u : Value} {it : Addr} (h : k.sq X.K H xs) (r : RelV k.v u) (hb : it ∉ k.base) :
    ∃ St, Draws X.prog X.w X.A.in1 it (it :: k.base) xs.length (fun i v => ∃ x, xs[i]? = some x ∧ RelV x v) St ∧ (∀ i, k.pr it u i s.heap → St i s.heap) ∧ ∀ i h, St i h → k.pr it u i h := by
  have hh : X.A.in1.handled = none := I.ok.hd hc
  cases k with
  | l a =>
    obtain ⟨us, rv, p, _⟩ := I.list h
    have D := Draws.list (prog := X.prog) (w := X.w) (A := X.A.in1) hh it a (fun e => hb (by simp [Knd.base, e])) us.toArray
    rw [List.size_toArray, ← rv.length] at D
    exact ⟨_, draws_by D fun i v q => vals_at rv q, fun i q => ⟨q, p.isList⟩, fun i h q => q.1⟩
  | t a =>
    obtain ⟨us, rv, p, _⟩ := I.tuple h
    have D := Draws.tuple (prog := X.prog) (w := X.w) (A := X.A.in1) hh it a (fun e => hb (by simp [Knd.base, e])) us.toArray
    rw [List.size_toArray, ← rv.length] at D
    exact ⟨_, draws_by D fun i v q => vals_at rv q, fun i q => ⟨q, p⟩, fun i h q => q.1⟩
  | s x =>
    obtain ⟨t, rfl⟩ := r
    have D := Draws.text (prog := X.prog) (w := X.w) (A := X.A.in1) hh it x t
    have e : x.cps.size = xs.length := by rw [h]; simp
    rw [e] at D
    refine ⟨_, draws_by D fun i v q => ?_, fun i q => ?_, fun i h q => ⟨t, rfl, q⟩⟩
    · obtain ⟨c, u, e1, rfl⟩ := q
      refine ⟨.str ⟨#[c]⟩, ?_, ⟨u, rfl⟩⟩
      rw [h, List.getElem?_map]
      have e2 : x.cps.toList[i]? = some c := by simpa using e1
      rw [e2] <;> rfl
    · obtain ⟨t', e1, q⟩ := q
      cases e1
      exact q
/-- an iterator over it is laid -/
theorem Knd.beg (I : Inv X pins σ H s) {k : Knd} {xs : List V} {u : Value} (h : k.sq X.K H xs) (r : RelV k.v u) : ∃ hB, Begins u (k.ob u) hB ∧ hB s.heap ∧ ∀ b ∈ k.base, b < s.heap.objs.size := by
  cases k with
  | l a =>
    cases r
    obtain ⟨us, rv, p, _⟩ := I.list h
    exact ⟨_, begins_list a us.toArray, p.isList, fun b hb => by rw [List.mem_singleton.mp hb]; exact p.lt⟩
  | t a =>
    cases r
    obtain ⟨us, rv, p, _⟩ := I.tuple h
    refine ⟨_, begins_tuple a us.toArray, p, fun b hb => ?_⟩
    rw [List.mem_singleton.mp hb]
    obtain ⟨o, e, _⟩ := p
    exact Heap.lt_size e
  | s x =>
    obtain ⟨t, rfl⟩ := r
    exact ⟨_, begins_text x t, trivial, nofun⟩
/-- a new tuple is handed out by an iterator that turned its own cells -/
theorem tup_out {H : Hp} {h' : Heap} {tk : Nat} {ch : List Addr} {T : Addr} {xs : List V} {us : List Value} (I : Inv X pins σ H s) (hf : ∀ b ∈ ch, FpOk X pins H b) (hk : ∀ b o, b ∉ ch → s.heap.get? b = some o → h'.get? b = some o) (hT : s.heap.objs.size ≤ T) (hl : xs.length ≤ sizeLine) (r : Vals xs us) (ht : h'.IsTuple T us.toArray) :
    Inv X pins σ (upd H T (.tup xs)) { s with heap := h', toks := tk } ∧ H T = none := ⟨I.turnedNew (t' := tk) (ch := ch) hk hf hT ⟨hl, us, r, ht⟩, I.hok.fresh hT⟩
end
/-- the cells stay out of the heap when a new place is taken -/
theorem cells_out {H : Hp} {X : Cx} {pins : List (Addr × Obj)} {ch : List Addr} {s : Shared} {T : Addr} {o : HO} (hf : ∀ b ∈ ch, FpOk X pins H b) (hx : ∀ b ∈ ch, ∃ o, s.heap.get? b = some o) (hT : s.heap.objs.size ≤ T) : ∀ b ∈ ch, (upd H T o) b = none := fun b hb => by
  obtain ⟨z, e⟩ := hx b hb
  rw [upd_ne (fun q => by rw [q] at e; exact absurd (Nat.lt_of_lt_of_le (Heap.lt_size e) hT) (Nat.lt_irrefl _))]
  exact (hf b hb).1
/-! ### zip of two -/
def ItZ (K : PySem.W.Frag) (k1 k2 : Knd) : It :=
  ⟨fun i H => ∃ xs ys x y, k1.sq K H xs ∧ k2.sq K H ys ∧ xs[i]? = some x ∧ ys[i]? = some y,
    fun i H v H' => ∃ T x y, v = .ref T ∧ H T = none ∧ H' = upd H T (.tup [x, y]) ∧ (∀ xs, k1.sq K H xs → xs[i]? = some x) ∧ ∀ ys, k2.sq K H ys → ys[i]? = some y,
    fun i H => ∃ xs ys, k1.sq K H xs ∧ k2.sq K H ys ∧ i = min xs.length ys.length⟩
theorem turnZ {P : Program} {w : World} {K : PySem.W.Frag} {elts : List Expr} {kk : Nat} {tpos : Pos} {k1 k2 : Knd} {u1 u2 : Value} {z TI TO i1 i2 : Addr} (S : ZipSep2 z TI TO i1 i2 (i1 :: k1.base) (i2 :: k2.base)) (n1 : i1 ∉ k1.base) (n2 : i2 ∉ k2.base) (r1 : RelV k1.v u1) (r2 : RelV k2.v u2) :
    Turn P w K (.Tuple elts kk tpos) (ItZ K k1 k2) [z, TI, TO, i1, i2] z (fun i h => IsZip h z TI TO .none ∧ IsTupOf2 h TI (.ref i1) (.ref i2) ∧ (∃ a1 a2, IsTupOf2 h TO a1 a2) ∧ k1.pr i1 u1 i h ∧ k2.pr i2 u2 i h) where
  mem := by simp
  obj := fun i h st c hc => by
    obtain ⟨hz, hTI, ⟨a1, a2, hTO⟩, q1, q2⟩ := st
    have hc' : c = z ∨ c = TI ∨ c = TO ∨ c = i1 ∨ c = i2 := by simpa using hc
    rcases hc' with q | q | q | q | q
    · rw [q]; exact ⟨_, hz, fun v e => nomatch e⟩
    · rw [q]; exact ⟨_, hTI, fun v e => nomatch e⟩
    · rw [q]; exact ⟨_, hTO, fun v e => nomatch e⟩
    · rw [q]; exact (Knd.live q1)
    · rw [q]; exact (Knd.live q2)
  keep := fun i h h' st q => by
    obtain ⟨hz, hTI, ⟨a1, a2, hTO⟩, q1, q2⟩ := st
    exact ⟨q z (by simp) _ hz, q TI (by simp) _ hTI, ⟨a1, a2, q TO (by simp) _ hTO⟩, Knd.stay q1 (q i1 (by simp)), Knd.stay q2 (q i2 (by simp))⟩
  item := by
    intro X hP hw hK hc i pins s σ H E I hf st hg
    subst hP hw hK
    obtain ⟨hz, hTI, hTO, q1, q2⟩ := st
    obtain ⟨xs, ys, x, y, hx, hy, ex, ey⟩ := hg
    obtain ⟨S1, D1, e1, o1⟩ := Knd.drw I hc hx r1 (it := i1) n1
    obtain ⟨S2, D2, e2, o2⟩ := Knd.drw I hc hy r2 (it := i2) n2
    have W := GoesN.zip2 (elts := elts) (x1 := kk) (pos := tpos) S D1 D2
    have hi : i < min xs.length ys.length := Nat.lt_min.mpr ⟨(List.getElem?_eq_some_iff.mp ex).1, (List.getElem?_eq_some_iff.mp ey).1⟩
    refine W.goes i s (fun v s2 => ∃ x H', Inv X pins σ H' s2 ∧ RelV x v ∧ (ItZ X.K k1 k2).yld i H x H' ∧ _ ∧ ∀ b ∈ [z, TI, TO, i1, i2], H' b = none) E hi ⟨hz, hTI, hTO, e1 i q1, e2 i q2⟩ fun v h' tk hY hS hk _ => ?_
    obtain ⟨T, u, u', rfl, hT, ⟨x', ex', rx⟩, ⟨y', ey', ry⟩, ht⟩ := hY
    obtain ⟨I1, hn⟩ := tup_out (tk := tk) (ch := [z, TI, TO, i1, i2]) (xs := [x', y']) (us := [u, u']) I hf (fun b o hb e => hk b o (fun q => hb (by
      have q' : b = z ∨ b = TO ∨ b = i1 ∨ b = i2 := by simpa using q
      rcases q' with q' | q' | q' | q' <;> simp [q'])) e) hT (by show 2 ≤ sizeLine; decide) (.cons rx (.cons ry .nil)) ht
    refine ⟨.ref T, _, I1, rfl, ⟨T, x', y', rfl, hn, rfl, fun l hl => by rw [Knd.one I hl hx]; exact ex', fun l hl => by rw [Knd.one I hl hy]; exact ey'⟩, ⟨hS.1, hS.2.1, hS.2.2.1, o1 _ _ hS.2.2.2.1, o2 _ _ hS.2.2.2.2⟩, cells_out hf (fun b hb => ?_) hT⟩
    have hb' : b = z ∨ b = TI ∨ b = TO ∨ b = i1 ∨ b = i2 := by simpa using hb
    rcases hb' with q | q | q | q | q
    · rw [q]; exact ⟨_, hz⟩
    · rw [q]; exact ⟨_, hTI⟩
    · rw [q]; obtain ⟨_, _, e⟩ := hTO; exact ⟨_, e⟩
    · rw [q]; obtain ⟨_, e, _⟩ := (Knd.live q1); exact ⟨_, e⟩
    · rw [q]; obtain ⟨_, e, _⟩ := (Knd.live q2); exact ⟨_, e⟩
  done := by
    intro X hP hw hK hc i pins s σ H E I hf st hg
    subst hP hw hK
    obtain ⟨hz, hTI, hTO, q1, q2⟩ := st
    obtain ⟨xs, ys, hx, hy, rfl⟩ := hg
    obtain ⟨S1, D1, e1, o1⟩ := Knd.drw I hc hx r1 (it := i1) n1
    obtain ⟨S2, D2, e2, o2⟩ := Knd.drw I hc hy r2 (it := i2) n2
    have W := GoesN.zip2 (elts := elts) (x1 := kk) (pos := tpos) S D1 D2
    exact W.stops s (fun s1 => Inv X pins σ H s1) E ⟨hz, hTI, hTO, e1 _ q1, e2 _ q2⟩ fun h' tk hk _ => I.turnedL (t' := tk) (ch := [z, TI, TO, i1, i2]) (fun b o hb e => hk b o (fun q => hb (by
      have q' : b = z ∨ b = TO ∨ b = i1 ∨ b = i2 := by simpa using q
      rcases q' with q' | q' | q' | q' <;> simp [q'])) e) hf
  self := fun A i s Q E st h => wpAny_pyIter_zip st.1 h
/-! ### zip of three -/
def ItZ3 (K : PySem.W.Frag) (k1 k2 k3 : Knd) : It :=
  ⟨fun i H => ∃ xs ys zs x y r, k1.sq K H xs ∧ k2.sq K H ys ∧ k3.sq K H zs ∧ xs[i]? = some x ∧ ys[i]? = some y ∧ zs[i]? = some r,
    fun i H v H' => ∃ T x y r, v = .ref T ∧ H T = none ∧ H' = upd H T (.tup [x, y, r]) ∧ (∀ xs, k1.sq K H xs → xs[i]? = some x) ∧ (∀ ys, k2.sq K H ys → ys[i]? = some y) ∧ ∀ zs, k3.sq K H zs → zs[i]? = some r,
    fun i H => ∃ xs ys zs, k1.sq K H xs ∧ k2.sq K H ys ∧ k3.sq K H zs ∧ i = min (min xs.length ys.length) zs.length⟩
theorem turnZ3 {P : Program} {w : World} {K : PySem.W.Frag} {elts : List Expr} {kk : Nat} {tpos : Pos} {k1 k2 k3 : Knd} {u1 u2 u3 : Value} {z TI TO i1 i2 i3 : Addr} (S : ZipSep3 z TI TO i1 i2 i3 (i1 :: k1.base) (i2 :: k2.base) (i3 :: k3.base))
    (n1 : i1 ∉ k1.base) (n2 : i2 ∉ k2.base) (n3 : i3 ∉ k3.base) (r1 : RelV k1.v u1) (r2 : RelV k2.v u2) (r3 : RelV k3.v u3) :
    Turn P w K (.Tuple elts kk tpos) (ItZ3 K k1 k2 k3) [z, TI, TO, i1, i2, i3] z (fun i h => IsZip h z TI TO .none ∧ IsTupOf3 h TI (.ref i1) (.ref i2) (.ref i3) ∧ (∃ a1 a2 a3, IsTupOf3 h TO a1 a2 a3) ∧ k1.pr i1 u1 i h ∧ k2.pr i2 u2 i h ∧ k3.pr i3 u3 i h) where
  mem := by simp
  obj := fun i h st c hc => by
    obtain ⟨hz, hTI, ⟨a1, a2, a3, hTO⟩, q1, q2, q3⟩ := st
    have hc' : c = z ∨ c = TI ∨ c = TO ∨ c = i1 ∨ c = i2 ∨ c = i3 := by simpa using hc
    rcases hc' with q | q | q | q | q | q
    · rw [q]; exact ⟨_, hz, fun v e => nomatch e⟩
    · rw [q]; exact ⟨_, hTI, fun v e => nomatch e⟩
    · rw [q]; exact ⟨_, hTO, fun v e => nomatch e⟩
    · rw [q]; exact Knd.live q1
    · rw [q]; exact Knd.live q2
    · rw [q]; exact Knd.live q3
  keep := fun i h h' st q => by
    obtain ⟨hz, hTI, ⟨a1, a2, a3, hTO⟩, q1, q2, q3⟩ := st
    exact ⟨q z (by simp) _ hz, q TI (by simp) _ hTI, ⟨a1, a2, a3, q TO (by simp) _ hTO⟩, Knd.stay q1 (q i1 (by simp)), Knd.stay q2 (q i2 (by simp)), Knd.stay q3 (q i3 (by simp))⟩
  item := by
    intro X hP hw hK hc i pins s σ H E I hf st hg
    subst hP hw hK
    obtain ⟨hz, hTI, hTO, q1, q2, q3⟩ := st
    obtain ⟨xs, ys, zs, x, y, r, hx, hy, hr, ex, ey, er⟩ := hg
    obtain ⟨S1, D1, e1, o1⟩ := Knd.drw I hc hx r1 (it := i1) n1
    obtain ⟨S2, D2, e2, o2⟩ := Knd.drw I hc hy r2 (it := i2) n2
    obtain ⟨S3, D3, e3, o3⟩ := Knd.drw I hc hr r3 (it := i3) n3
    have W := GoesN.zip3 (elts := elts) (x1 := kk) (pos := tpos) S D1 D2 D3
    have hi : i < min (min xs.length ys.length) zs.length := Nat.lt_min.mpr ⟨Nat.lt_min.mpr ⟨(List.getElem?_eq_some_iff.mp ex).1, (List.getElem?_eq_some_iff.mp ey).1⟩, (List.getElem?_eq_some_iff.mp er).1⟩
    refine W.goes i s (fun v s2 => ∃ x H', Inv X pins σ H' s2 ∧ RelV x v ∧ (ItZ3 X.K k1 k2 k3).yld i H x H' ∧ _ ∧ ∀ b ∈ [z, TI, TO, i1, i2, i3], H' b = none) E hi ⟨hz, hTI, hTO, e1 i q1, e2 i q2, e3 i q3⟩ fun v h' tk hY hS hk _ => ?_
    obtain ⟨T, u, u', u'', rfl, hT, ⟨x', ex', rx⟩, ⟨y', ey', ry⟩, ⟨t', er', rt⟩, ht⟩ := hY
    obtain ⟨I1, hn⟩ := tup_out (tk := tk) (ch := [z, TI, TO, i1, i2, i3]) (xs := [x', y', t']) (us := [u, u', u'']) I hf (fun b o hb e => hk b o (fun q => hb (by
      have q' : b = z ∨ b = TO ∨ b = i1 ∨ b = i2 ∨ b = i3 := by simpa using q
      rcases q' with q' | q' | q' | q' | q' <;> simp [q'])) e) hT (by show 3 ≤ sizeLine; decide) (.cons rx (.cons ry (.cons rt .nil))) ht
    refine ⟨.ref T, _, I1, rfl, ⟨T, x', y', t', rfl, hn, rfl, fun l hl => by rw [Knd.one I hl hx]; exact ex', fun l hl => by rw [Knd.one I hl hy]; exact ey', fun l hl => by rw [Knd.one I hl hr]; exact er'⟩, ⟨hS.1, hS.2.1, hS.2.2.1, o1 _ _ hS.2.2.2.1, o2 _ _ hS.2.2.2.2.1, o3 _ _ hS.2.2.2.2.2⟩, cells_out hf (fun b hb => ?_) hT⟩
    have hb' : b = z ∨ b = TI ∨ b = TO ∨ b = i1 ∨ b = i2 ∨ b = i3 := by simpa using hb
    rcases hb' with q | q | q | q | q | q
    · rw [q]; exact ⟨_, hz⟩
    · rw [q]; exact ⟨_, hTI⟩
    · rw [q]; obtain ⟨_, _, _, e⟩ := hTO; exact ⟨_, e⟩
    · rw [q]; obtain ⟨_, e, _⟩ := Knd.live q1; exact ⟨_, e⟩
    · rw [q]; obtain ⟨_, e, _⟩ := Knd.live q2; exact ⟨_, e⟩
    · rw [q]; obtain ⟨_, e, _⟩ := Knd.live q3; exact ⟨_, e⟩
  done := by
    intro X hP hw hK hc i pins s σ H E I hf st hg
    subst hP hw hK
    obtain ⟨hz, hTI, hTO, q1, q2, q3⟩ := st
    obtain ⟨xs, ys, zs, hx, hy, hr, rfl⟩ := hg
    obtain ⟨S1, D1, e1, o1⟩ := Knd.drw I hc hx r1 (it := i1) n1
    obtain ⟨S2, D2, e2, o2⟩ := Knd.drw I hc hy r2 (it := i2) n2
    obtain ⟨S3, D3, e3, o3⟩ := Knd.drw I hc hr r3 (it := i3) n3
    have W := GoesN.zip3 (elts := elts) (x1 := kk) (pos := tpos) S D1 D2 D3
    exact W.stops s (fun s1 => Inv X pins σ H s1) E ⟨hz, hTI, hTO, e1 _ q1, e2 _ q2, e3 _ q3⟩ fun h' tk hk _ => I.turnedL (t' := tk) (ch := [z, TI, TO, i1, i2, i3]) (fun b o hb e => hk b o (fun q => hb (by
      have q' : b = z ∨ b = TO ∨ b = i1 ∨ b = i2 ∨ b = i3 := by simpa using q
      rcases q' with q' | q' | q' | q' | q' <;> simp [q'])) e) hf
  self := fun A i s Q E st h => wpAny_pyIter_zip st.1 h
/-! ### enumerate -/
def ItE (K : PySem.W.Frag) (k : Knd) : It :=
  ⟨fun i H => ∃ xs x, k.sq K H xs ∧ xs[i]? = some x,
    fun i H v H' => ∃ T x, v = .ref T ∧ H T = none ∧ H' = upd H T (.tup [.int (i : Nat), x]) ∧ ∀ xs, k.sq K H xs → xs[i]? = some x,
    fun i H => ∃ xs, k.sq K H xs ∧ i = xs.length⟩
theorem turnE {P : Program} {w : World} {K : PySem.W.Frag} {elts : List Expr} {kk : Nat} {tpos : Pos} {k : Knd} {u : Value} {e it : Addr} (he : e ∉ it :: k.base) (n1 : it ∉ k.base) (r1 : RelV k.v u) :
    Turn P w K (.Tuple elts kk tpos) (ItE K k) [e, it] e (fun i h => (∃ old, IsEnum h e it (0 + (i : Int)) old) ∧ k.pr it u i h) where
  mem := by simp
  obj := fun i h st c hc => by
    obtain ⟨⟨old, he⟩, q1⟩ := st
    have hc' : c = e ∨ c = it := by simpa using hc
    rcases hc' with q | q
    · rw [q]; exact ⟨_, he, fun v e => nomatch e⟩
    · rw [q]; exact Knd.live q1
  keep := fun i h h' st q => by
    obtain ⟨⟨old, he⟩, q1⟩ := st
    exact ⟨⟨old, q e (by simp) _ he⟩, Knd.stay q1 (q it (by simp))⟩
  item := by
    intro X hP hw hK hc i pins s σ H E I hf st hg
    subst hP hw hK
    obtain ⟨hE, q1⟩ := st
    obtain ⟨xs, x, hx, ex⟩ := hg
    obtain ⟨S1, D1, e1, o1⟩ := Knd.drw I hc hx r1 (it := it) n1
    have W := GoesN.enumFrom (elts := elts) (x1 := kk) (pos := tpos) 0 D1 e (fun q => he (by simp [q])) he (List.mem_cons_self ..)
    refine W.goes i s (fun v s2 => ∃ x H', Inv X pins σ H' s2 ∧ RelV x v ∧ (ItE X.K k).yld i H x H' ∧ _ ∧ ∀ b ∈ [e, it], H' b = none) E (List.getElem?_eq_some_iff.mp ex).1 ⟨hE, e1 i q1⟩ fun v h' tk hY hS hk _ => ?_
    obtain ⟨T, t, u', rfl, hT, ⟨x', ex', rx⟩, ht⟩ := hY
    have z0 : (0 : Int) + (i : Nat) = (i : Nat) := by omega
    rw [z0] at ht
    obtain ⟨I1, hn⟩ := tup_out (tk := tk) (ch := [e, it]) (xs := [.int (i : Nat), x']) (us := [.int (i : Nat) t, u']) I hf hk hT (by show 2 ≤ sizeLine; decide) (.cons ⟨t, rfl⟩ (.cons rx .nil)) ht
    refine ⟨.ref T, _, I1, rfl, ⟨T, x', rfl, hn, rfl, fun l hl => by rw [Knd.one I hl hx]; exact ex'⟩, ⟨hS.1, o1 _ _ hS.2⟩, cells_out hf (fun b hb => ?_) hT⟩
    have hb' : b = e ∨ b = it := by simpa using hb
    rcases hb' with q | q
    · rw [q]; obtain ⟨_, e⟩ := hE; exact ⟨_, e⟩
    · rw [q]; obtain ⟨_, e, _⟩ := Knd.live q1; exact ⟨_, e⟩
  done := by
    intro X hP hw hK hc i pins s σ H E I hf st hg
    subst hP hw hK
    obtain ⟨hE, q1⟩ := st
    obtain ⟨xs, hx, rfl⟩ := hg
    obtain ⟨S1, D1, e1, o1⟩ := Knd.drw I hc hx r1 (it := it) n1
    have W := GoesN.enumFrom (elts := elts) (x1 := kk) (pos := tpos) 0 D1 e (fun q => he (by simp [q])) he (List.mem_cons_self ..)
    exact W.stops s (fun s1 => Inv X pins σ H s1) E ⟨hE, e1 _ q1⟩ fun h' tk hk _ => I.turnedL (t' := tk) (ch := [e, it]) hk hf
  self := fun A i s Q E st h => let ⟨⟨_, he⟩, _⟩ := st; wpAny_pyIter_enum he h
theorem meets_enum1 {v : Value} {ob : Obj} {hB : Heap → Prop} (B : Begins v ob hB) :
    Meets (Builtin.«enumerate.__new__» ⟨[.type "enumerate", v], []⟩) (fun _ R s => hB s.heap ∧
      R (.ok (.ret (.ref (s.heap.push ob).objs.size))) { s with heap := (s.heap.push ob).push { cls := .type "enumerate", data := .fields #[.none, .bool false, .ref s.heap.objs.size, rawInt 0, .none, .none] } }) :=
  .of_wp fun prog w A R s hyp => by
    obtain ⟨h0, g0, d0, t0, o0⟩ := s
    obtain ⟨hb, hyp⟩ := hyp
    have hsub := sub_enumerate
    have it1 : ∀ {A' : Around} {E : Value → Shared → Prop} {Q : Value → Shared → Prop}, Q (.ref h0.objs.size) ⟨h0.push ob, g0, d0, t0, o0⟩ → wpAny (model prog w) A' (pyIter v) Q E ⟨h0, g0, d0, t0, o0⟩ :=
      fun hq => B.iter prog w _ _ ⟨h0, g0, d0, t0, o0⟩ _ hb hq
    wp_walk using it1
    refine wpAny_stack_any fun stk => wpAny_pure ?_
    split
    · rename_i cl _ _ _ _ _
      cases (cl == Value.type "enumerate")
      · wp_walk using it1
        exact ⟨_, rfl, hyp⟩
      · wp_walk using it1
        exact ⟨_, rfl, hyp⟩
    · wp_walk using it1
      exact ⟨_, rfl, hyp⟩
theorem enum_beg {prog : Program} {w : World} {A : Around} {E : Value → Shared → Prop} {s : Shared} {v : Value} {ob : Obj} {hB : Heap → Prop} {Q : Value → Shared → Prop} (B : Begins v ob hB) (hb : hB s.heap)
    (hQ : ∀ h', IsEnum h' (s.heap.objs.size + 1) s.heap.objs.size 0 .none → h'.get? s.heap.objs.size = some ob → (∀ b o, s.heap.get? b = some o → h'.get? b = some o) → Q (.ref (s.heap.objs.size + 1)) { s with heap := h' }) :
    wpAny (model prog w) A (call (.type "enumerate") [v]) Q E s := by
  refine callType_new F.called_enumerate (by decide) (F.typeCall_enumerate_1 _) (F.newCall_enumerate_1 _) (fun obj => F.args_object_init_2 obj _) F.entry_enumerate_new (meets_enum1 B) ⟨hb, ?_⟩
  have sz : (s.heap.push ob).objs.size = s.heap.objs.size + 1 := Heap.size_push ..
  show _ ∧ _
  rw [sz]
  have q := Heap.get?_push_size (s.heap.push ob) (o := { cls := .type "enumerate", data := .fields #[.none, .bool false, .ref s.heap.objs.size, rawInt 0, .none, .none] }) rfl
  rw [sz] at q
  exact ⟨⟨_, q, rfl⟩, hQ _ q (Heap.get?_push_of_some _ (Heap.get?_push_size _ B.free)) fun b o e => Heap.get?_push_of_some _ (Heap.get?_push_of_some _ e)⟩
/-! ### the calls -/
section
variable {X : Cx} {er : List Expr} {e : Expr} {ta : TA} {p pos tpos : Pos} {elts : List Expr} {kk : Nat}
theorem vals_cons {x : V} {xs : List V} {us : List Value} (r : Vals (x :: xs) us) : ∃ u r', us = u :: r' ∧ RelV x u ∧ Vals xs r' := by
  cases r with
  | cons h t => exact ⟨_, _, rfl, h, t⟩
theorem vals_nil {us : List Value} (r : Vals [] us) : us = [] := by cases r; rfl
theorem not_base {N j : Nat} {l : List Addr} (h : ∀ b ∈ l, b < N) : N + j ∉ l := fun q => by
  have : (N + j : Nat) < N := h _ q
  omega
theorem pi_zipK (hg : Gl X "zip") (hm : X.mg "zip" = none) (ha : PA X (e :: er) ta) (h1 : starEach (e :: er) X.env = (false, eval e X.env) :: starEach er X.env) (h2 : (backTo pos (starEach er X.env)).any (·.1) = false) :
    PI X (.Tuple elts kk tpos) (.Call (.Name "zip" p) (e :: er) [] pos) (fun σ H R => ta σ H fun vs H1 => (∃ k1 k2 xs ys, vs = [k1.v, k2.v] ∧ k1.sq X.K H1 xs ∧ k2.sq X.K H1 ys ∧ R (ItZ X.K k1 k2) H1) ∨
      ∃ k1 k2 k3 xs ys zs, vs = [k1.v, k2.v, k3.v] ∧ k1.sq X.K H1 xs ∧ k2.sq X.K H1 ys ∧ k3.sq X.K H1 zs ∧ R (ItZ3 X.K k1 k2 k3) H1) := by
  constructor
  intro pins s σ H R I h
  refine Call_ (ld_blt I hg hm PyProof.Rows.boot_zip (PyProof.Rows.callWith_type1 (thn (ha.run pos pins s σ H _ I h) fun us s1 ⟨vs, H1, I1, r1, q1⟩ => ?_) h1 h2))
  rcases q1 with ⟨k1, k2, xs, ys, rfl, hx, hy, q⟩ | ⟨k1, k2, k3, xs, ys, zs, rfl, hx, hy, hz3, q⟩
  · obtain ⟨u1, r, rfl, ra, r1⟩ := vals_cons r1
    obtain ⟨u2, r, rfl, rb, r1⟩ := vals_cons r1
    cases vals_nil r1
    · skip
      obtain ⟨B1, b1, m1, f1⟩ := Knd.beg I1 hx ra
      obtain ⟨B2, b2, m2, f2⟩ := Knd.beg I1 hy rb
      refine zip_begins2 b1 b2 m1 m2 fun h' hz hTI hTO g1 g2 hsz hk => wpAny_pyIter_zip hz ?_
      have I2 : Inv X pins σ H1 { s1 with heap := h' } := I1.kept (t' := s1.toks) hk
      refine ⟨s1.heap.objs.size + 4, [s1.heap.objs.size + 4, s1.heap.objs.size + 2, s1.heap.objs.size + 3, s1.heap.objs.size, s1.heap.objs.size + 1], _, _, H1, rfl, I2,
        turnZ (zip_sep2 f1 f2) (not_base (j := 0) f1) (not_base f2) ra rb, ⟨hz, hTI, ⟨_, _, hTO⟩, Knd.pr0 ra g1, Knd.pr0 rb g2⟩, fun c hc => ?_, q⟩
      have le : s1.heap.objs.size ≤ c := by
        have hc' : c = s1.heap.objs.size + 4 ∨ c = s1.heap.objs.size + 2 ∨ c = s1.heap.objs.size + 3 ∨ c = s1.heap.objs.size ∨ c = s1.heap.objs.size + 1 := by simpa using hc
        rcases hc' with q | q | q | q | q
        · rw [q]; exact Nat.le_add_right _ _
        · rw [q]; exact Nat.le_add_right _ _
        · rw [q]; exact Nat.le_add_right _ _
        · rw [q]; exact Nat.le_refl _
        · rw [q]; exact Nat.le_add_right _ _
      exact I1.fpOk le (I1.hok.fresh le)
  · obtain ⟨u1, r, rfl, ra, r1⟩ := vals_cons r1
    obtain ⟨u2, r, rfl, rb, r1⟩ := vals_cons r1
    obtain ⟨u3, r, rfl, rc, r1⟩ := vals_cons r1
    cases vals_nil r1
    · skip
      obtain ⟨B1, b1, m1, f1⟩ := Knd.beg I1 hx ra
      obtain ⟨B2, b2, m2, f2⟩ := Knd.beg I1 hy rb
      obtain ⟨B3, b3, m3, f3⟩ := Knd.beg I1 hz3 rc
      refine zip_begins3 b1 b2 b3 m1 m2 m3 fun h' hz hTI hTO g1 g2 g3 hsz hk => wpAny_pyIter_zip hz ?_
      have I2 : Inv X pins σ H1 { s1 with heap := h' } := I1.kept (t' := s1.toks) hk
      refine ⟨s1.heap.objs.size + 5, [s1.heap.objs.size + 5, s1.heap.objs.size + 3, s1.heap.objs.size + 4, s1.heap.objs.size, s1.heap.objs.size + 1, s1.heap.objs.size + 2], _, _, H1, rfl, I2,
        turnZ3 (zip_sep3 f1 f2 f3) (not_base (j := 0) f1) (not_base f2) (not_base f3) ra rb rc, ⟨hz, hTI, ⟨_, _, _, hTO⟩, Knd.pr0 ra g1, Knd.pr0 rb g2, Knd.pr0 rc g3⟩, fun c hc => ?_, q⟩
      have le : s1.heap.objs.size ≤ c := by
        have hc' : c = s1.heap.objs.size + 5 ∨ c = s1.heap.objs.size + 3 ∨ c = s1.heap.objs.size + 4 ∨ c = s1.heap.objs.size ∨ c = s1.heap.objs.size + 1 ∨ c = s1.heap.objs.size + 2 := by simpa using hc
        rcases hc' with q | q | q | q | q | q
        · rw [q]; exact Nat.le_add_right _ _
        · rw [q]; exact Nat.le_add_right _ _
        · rw [q]; exact Nat.le_add_right _ _
        · rw [q]; exact Nat.le_refl _
        · rw [q]; exact Nat.le_add_right _ _
        · rw [q]; exact Nat.le_add_right _ _
      exact I1.fpOk le (I1.hok.fresh le)
theorem pi_enumK (hg : Gl X "enumerate") (hm : X.mg "enumerate" = none) (ha : PA X (e :: er) ta) (h1 : starEach (e :: er) X.env = (false, eval e X.env) :: starEach er X.env) (h2 : (backTo pos (starEach er X.env)).any (·.1) = false) :
    PI X (.Tuple elts kk tpos) (.Call (.Name "enumerate" p) (e :: er) [] pos) (fun σ H R => ta σ H fun vs H1 => ∃ k xs, vs = [k.v] ∧ k.sq X.K H1 xs ∧ R (ItE X.K k) H1) := by
  constructor
  intro pins s σ H R I h
  refine Call_ (ld_blt I hg hm boot_enumerate (PyProof.Rows.callWith_type1 (thn (ha.run pos pins s σ H _ I h) fun us s1 ⟨vs, H1, I1, r1, q1⟩ => ?_) h1 h2))
  obtain ⟨k, xs, rfl, hx, q⟩ := q1
  obtain ⟨u1, r, rfl, ra, r1⟩ := vals_cons r1
  cases vals_nil r1
  · skip
    obtain ⟨B1, b1, m1, f1⟩ := Knd.beg I1 hx ra
    refine enum_beg b1 m1 fun h' he g1 hk => wpAny_pyIter_enum he ?_
    have I2 : Inv X pins σ H1 { s1 with heap := h' } := I1.kept (t' := s1.toks) hk
    refine ⟨s1.heap.objs.size + 1, [s1.heap.objs.size + 1, s1.heap.objs.size], _, _, H1, rfl, I2, turnE (notIn_new (j := 1) (i := 0) f1 (by omega)) (not_base (j := 0) f1) ra, ⟨⟨_, he⟩, Knd.pr0 ra g1⟩, fun c hc => ?_, q⟩
    have le : s1.heap.objs.size ≤ c := by
      have hc' : c = s1.heap.objs.size + 1 ∨ c = s1.heap.objs.size := by simpa using hc
      rcases hc' with q | q
      · rw [q]; exact Nat.le_add_right _ _
      · rw [q]; exact Nat.le_refl _
    exact I1.fpOk le (I1.hok.fresh le)
end
/-! ### their meaning -/
/-- the lists of the store that are walked, as they stand -/
def wkG : Option Gk → List D → List (Nat × List D)
  | some (.one n), a => [(n, a)]
  | _, _ => []
def jnG : List (Nat × List D) → Option Gk
  | [] => none
  | p :: l => some (.many (p :: l))
theorem jnG_ok {l : List (Nat × List D)} {ds : List D} {st : Sto} (h : gst (jnG l) ds st) : ∀ p ∈ l, st[p.1]? = some (.lst p.2) := by
  cases l with
  | nil => exact nofun
  | cons => exact h
/-- a value walked: what it is made of, as long as the lists of the store stand -/
theorem knd_of {K : Kx} {ρ : List Addr} {H : Hp} {v : V} {x : D} {s : Sto} {a : List D} {o : Option Gk} (hr : Hr K ρ H s) (r : Rp K ρ H v x) (h : itemsD x s = some (a, o)) :
    ∃ k, v = Knd.v k ∧ a.length ≤ sizeLine ∧ (∃ vs, k.sq K.K H vs) ∧ ∀ (K' : Kx) (ρ2 : List Addr) (H2 : Hp) (st2 : Sto), Xt ρ H ρ2 H2 → Mre K K' H → Hr K' ρ2 H2 st2 → (∀ p ∈ wkG o a, st2[p.1]? = some (.lst p.2)) → ∃ vs, k.sq K.K H2 vs ∧ Rps K' ρ2 H2 vs a := by
  cases r with
  | tup f z q => cases h; exact ⟨.t _, rfl, by rw [← q.length]; exact z, ⟨_, f.sq⟩, fun K' ρ2 H2 st2 x m _ _ => ⟨_, (f.xt x).sq, Rps.xt x _ _ (Rps.more m _ _ q)⟩⟩
  | lst n f z q => cases h; exact ⟨.l _, rfl, by rw [← q.length]; exact z, ⟨_, SqL.of f⟩, fun K' ρ2 H2 st2 x m _ _ => ⟨_, SqL.of (x.keep _ _ n.1 f), Rps.xt x _ _ (Rps.more m _ _ q)⟩⟩
  | ro f z q => cases h; exact ⟨.l _, rfl, by rw [← q.length]; exact z, ⟨_, f.sq⟩, fun K' ρ2 H2 st2 x m _ _ => ⟨_, (f.xt x).sq, Rps.xt x _ _ (Rps.more m _ _ q)⟩⟩
  | str y =>
    have h' : (if y.length ≤ sizeLine then some (strItems y, (none : Option Gk)) else none) = some (a, o) := h
    by_cases hz : y.length ≤ sizeLine
    · rw [if_pos hz] at h'
      cases h'
      refine ⟨.s y, rfl, by rw [strItems_len]; exact hz, ⟨_, rfl⟩, fun K' ρ2 H2 st2 x m _ _ => ⟨_, rfl, ?_⟩⟩
      unfold strItems
      generalize y.cps.toList = l
      induction l with
      | nil => exact .nil
      | cons c l ih => exact .cons (.str _) ih
    · rw [if_neg hz] at h'
      cases h'
  | ref hn =>
    rename_i ad n
    have h' : (match s[n]? with | some (.lst ds) => some (ds, some (Gk.one n)) | _ => none) = some (a, o) := h
    cases e : s[n]? with
    | none => rw [e] at h'; cases h'
    | some u =>
      rw [e] at h'
      cases u with
      | lst ds =>
        cases h'
        obtain ⟨xs, h1, h2, h3⟩ := hr.ob n ad _ hn e
        refine ⟨.l ad, rfl, by rw [← h3.length]; exact h2, ⟨xs, SqL.of h1⟩, fun K' ρ2 H2 st2 x m hr2 g => ?_⟩
        obtain ⟨ys, g1, g2, g3⟩ := hr2.ob n ad _ (x.get hn) (g (n, _) (.head _))
        exact ⟨ys, SqL.of g1, g3⟩
      | dct => cases h'
      | ins => cases h'
  | _ => cases h
theorem rp_pair {K : Kx} {ρ : List Addr} {H : Hp} {st : Sto} {T : Addr} {xs : List V} {ds : List D} (hr : Hr K ρ H st) (hT : H T = none) (hl : xs.length ≤ sizeLine) (r : Rps K ρ H xs ds) : Same H (upd H T (.tup xs)) ∧ Rp K ρ (upd H T (.tup xs)) (.ref T) (.tup ds) :=
  ⟨same_upd hT, .tup (.inl ⟨hr.new hT, .inl upd_same⟩) hl (Rps.xt (Xt.same (same_upd hT)) _ _ r)⟩
def zip2D (a b : List D) : List D := List.zipWith (fun x y => .tup [x, y]) a b
def zip3D : List D → List D → List D → List D
  | x :: a, y :: b, z :: c => .tup [x, y, z] :: zip3D a b c
  | _, _, _ => []
def enumD : Nat → List D → List D
  | _, [] => []
  | n, d :: r => .tup [.int (n : Nat), d] :: enumD (n + 1) r
theorem zip2D_at {a b : List D} {i : Nat} {d : D} (h : (zip2D a b)[i]? = some d) : ∃ x y, a[i]? = some x ∧ b[i]? = some y ∧ d = .tup [x, y] := by
  unfold zip2D at h
  rw [List.getElem?_zipWith] at h
  split at h
  · cases h
    exact ⟨_, _, by assumption, by assumption, rfl⟩
  · cases h
theorem zip2D_len (a b : List D) : (zip2D a b).length = min a.length b.length := by simp [zip2D]
theorem zip3D_at : ∀ {a b c : List D} {i : Nat} {d : D}, (zip3D a b c)[i]? = some d → ∃ x y z, a[i]? = some x ∧ b[i]? = some y ∧ c[i]? = some z ∧ d = .tup [x, y, z]
  | x :: a, y :: b, z :: c, 0, d, h => by
    have h' : some (D.tup [x, y, z]) = some d := h
    cases h'
    exact ⟨x, y, z, rfl, rfl, rfl, rfl⟩
  | x :: a, y :: b, z :: c, i + 1, d, h => by
    have h' : (zip3D a b c)[i]? = some d := h
    obtain ⟨x', y', z', q1, q2, q3, q⟩ := zip3D_at h'
    exact ⟨x', y', z', q1, q2, q3, q⟩
  | [], _, _, _, _, h => by unfold zip3D at h; cases h
  | _ :: _, [], _, _, _, h => by unfold zip3D at h; cases h
  | _ :: _, _ :: _, [], _, _, h => by unfold zip3D at h; cases h
theorem zip3D_len : ∀ (a b c : List D), (zip3D a b c).length = min (min a.length b.length) c.length
  | x :: a, y :: b, z :: c => by
    have := zip3D_len a b c
    unfold zip3D
    simp only [List.length_cons]
    omega
  | [], _, _ => by unfold zip3D; simp
  | _ :: _, [], _ => by unfold zip3D; simp
  | _ :: _, _ :: _, [] => by unfold zip3D; simp
theorem enumD_at : ∀ {a : List D} {n i : Nat} {d : D}, (enumD n a)[i]? = some d → ∃ x, a[i]? = some x ∧ d = .tup [.int ((n + i : Nat) : Int), x]
  | x :: a, n, 0, d, h => by
    have h' : some (D.tup [.int (n : Nat), x]) = some d := h
    cases h'
    exact ⟨x, rfl, rfl⟩
  | x :: a, n, i + 1, d, h => by
    have h' : (enumD (n + 1) a)[i]? = some d := h
    obtain ⟨x', q1, q⟩ := enumD_at h'
    have e : n + 1 + i = n + (i + 1) := by omega
    exact ⟨x', q1, by rw [q, e]⟩
  | [], _, _, _, h => by unfold enumD at h; cases h
theorem enumD_len : ∀ (n : Nat) (a : List D), (enumD n a).length = a.length
  | _, [] => rfl
  | n, _ :: a => by
    unfold enumD
    rw [List.length_cons, List.length_cons, enumD_len (n + 1) a]
def zpD (xs : List D) (s : Sto) : Option (List D × Option Gk) := match xs with
  | [x, y] => match itemsD x s, itemsD y s with
    | some (a, o), some (b, p) => some (zip2D a b, jnG (wkG o a ++ wkG p b))
    | _, _ => none
  | [x, y, z] => match itemsD x s, itemsD y s, itemsD z s with
    | some (a, o), some (b, p), some (c, q) => some (zip3D a b c, jnG (wkG o a ++ wkG p b ++ wkG q c))
    | _, _, _ => none
  | _ => none
def mZp (ma : MA) : MI := fun env st => (ma env st).bd fun xs s => match zpD xs s with
  | some l => .ok l s
  | none => .bad
def enD (xs : List D) (s : Sto) : Option (List D × Option Gk) := match xs with
  | [x] => match itemsD x s with
    | some (a, o) => some (enumD 0 a, jnG (wkG o a))
    | _ => none
  | _ => none
def mEn (ma : MA) : MI := fun env st => (ma env st).bd fun xs s => match enD xs s with
  | some l => .ok l s
  | none => .bad
section
variable {X : Cx} {er : List Expr} {e : Expr} {ma : MA} {p pos tpos : Pos} {elts : List Expr} {kk : Nat}
theorem si_zip (hg : Gl X "zip") (hm : X.mg "zip" = none) (hp : (e :: er).all plainArg = true) (h : SA X (e :: er) ma) : SI X (.Tuple elts kk tpos) (.Call (.Name "zip" p) (e :: er) [] pos) (mZp ma) := fun ξ ρ H σ env st Z e0 hr w => by
  rw [List.all_cons, Bool.and_eq_true] at hp
  refine (pi_zipK hg hm pa_ra (star_cons hp.1) (star_any hp.2)).ri (h ξ ρ H σ env st _ e0 hr (R.wp_mono (R.wp_bd.mp w) fun xs s w1 ρ1 H1 vs x1 h1 r1 hl => ?_))
  cases q : zpD xs s with
  | none => rw [q] at w1; exact w1.elim
  | some l =>
    rw [q] at w1
    have w2 := fun J (hJ : Itok (X.kx ξ) ρ1 H1 J l.1 l.2) => w1 ρ1 H1 J x1 h1 hJ
    unfold zpD at q
    split at q
    · rename_i x y
      split at q
      · rename_i a oa b ob ha hb
        cases q
        obtain ⟨v1, v2, rfl, ra, rb⟩ := r1.two
        obtain ⟨k1, rfl, l1, ⟨vs1, s1⟩, f1⟩ := knd_of h1 ra ha
        obtain ⟨k2, rfl, l2, ⟨vs2, s2⟩, f2⟩ := knd_of h1 rb hb
        refine .inl ⟨k1, k2, vs1, vs2, rfl, s1, s2, w2 _ ⟨by show (zip2D a b).length ≤ _; rw [zip2D_len]; exact Nat.le_trans (Nat.min_le_left _ _) l1, ?_, ?_⟩⟩
        · intro K' ρ2 H2 st2 x m hr2 g i d hd
          have gg := jnG_ok g
          obtain ⟨d1, d2, e1, e2, rfl⟩ := zip2D_at hd
          obtain ⟨us1, c1, c2⟩ := f1 K' ρ2 H2 st2 x m hr2 fun p hp => gg p (List.mem_append_left _ hp)
          obtain ⟨us2, c3, c4⟩ := f2 K' ρ2 H2 st2 x m hr2 fun p hp => gg p (List.mem_append_right _ hp)
          obtain ⟨y1, z1, z2⟩ := c2.get e1
          obtain ⟨y2, z3, z4⟩ := c4.get e2
          refine ⟨⟨_, _, y1, y2, c1, c3, z1, z3⟩, ?_⟩
          rintro v H3 ⟨T, t1, t2, rfl, hT, rfl, g1, g2⟩
          have e3 := g1 _ c1
          have e4 := g2 _ c3
          rw [z1] at e3
          rw [z3] at e4
          cases e3
          cases e4
          exact rp_pair hr2 hT (by show 2 ≤ sizeLine; decide) (.cons z2 (.cons z4 .nil))
        · intro K' ρ2 H2 st2 x m hr2 g i hi
          have gg := jnG_ok g
          obtain ⟨us1, c1, c2⟩ := f1 K' ρ2 H2 st2 x m hr2 fun p hp => gg p (List.mem_append_left _ hp)
          obtain ⟨us2, c3, c4⟩ := f2 K' ρ2 H2 st2 x m hr2 fun p hp => gg p (List.mem_append_right _ hp)
          have hi' : i = (zip2D a b).length := hi
          exact ⟨_, _, c1, c3, by rw [hi', zip2D_len, c2.length, c4.length]⟩
      · cases q
    · rename_i x y z
      split at q
      · rename_i a oa b ob c oc ha hb hc
        cases q
        obtain ⟨v1, vr, rfl, ra, rr⟩ : ∃ v1 vr, vs = v1 :: vr ∧ Rp (X.kx ξ) ρ1 H1 v1 x ∧ Rps (X.kx ξ) ρ1 H1 vr [y, z] := by
          cases r1 with
          | cons h1 h2 => exact ⟨_, _, rfl, h1, h2⟩
        obtain ⟨v2, v3, rfl, rb, rc⟩ := rr.two
        obtain ⟨k1, rfl, l1, ⟨vs1, s1⟩, f1⟩ := knd_of h1 ra ha
        obtain ⟨k2, rfl, l2, ⟨vs2, s2⟩, f2⟩ := knd_of h1 rb hb
        obtain ⟨k3, rfl, l3, ⟨vs3, s3⟩, f3⟩ := knd_of h1 rc hc
        refine .inr ⟨k1, k2, k3, vs1, vs2, vs3, rfl, s1, s2, s3, w2 _ ⟨by show (zip3D a b c).length ≤ _; rw [zip3D_len]; exact Nat.le_trans (Nat.min_le_right _ _) l3, ?_, ?_⟩⟩
        · intro K' ρ2 H2 st2 x m hr2 g i d hd
          have gg := jnG_ok g
          obtain ⟨d1, d2, d3, e1, e2, e5, rfl⟩ := zip3D_at hd
          obtain ⟨us1, c1, c2⟩ := f1 K' ρ2 H2 st2 x m hr2 fun p hp => gg p (List.mem_append_left _ (List.mem_append_left _ hp))
          obtain ⟨us2, c3, c4⟩ := f2 K' ρ2 H2 st2 x m hr2 fun p hp => gg p (List.mem_append_left _ (List.mem_append_right _ hp))
          obtain ⟨us3, c5, c6⟩ := f3 K' ρ2 H2 st2 x m hr2 fun p hp => gg p (List.mem_append_right _ hp)
          obtain ⟨y1, z1, z2⟩ := c2.get e1
          obtain ⟨y2, z3, z4⟩ := c4.get e2
          obtain ⟨y3, z5, z6⟩ := c6.get e5
          refine ⟨⟨_, _, _, y1, y2, y3, c1, c3, c5, z1, z3, z5⟩, ?_⟩
          rintro v H3 ⟨T, t1, t2, t3, rfl, hT, rfl, g1, g2, g3⟩
          have e3 := g1 _ c1
          have e4 := g2 _ c3
          have e6 := g3 _ c5
          rw [z1] at e3
          rw [z3] at e4
          rw [z5] at e6
          cases e3
          cases e4
          cases e6
          exact rp_pair hr2 hT (by show 3 ≤ sizeLine; decide) (.cons z2 (.cons z4 (.cons z6 .nil)))
        · intro K' ρ2 H2 st2 x m hr2 g i hi
          have gg := jnG_ok g
          obtain ⟨us1, c1, c2⟩ := f1 K' ρ2 H2 st2 x m hr2 fun p hp => gg p (List.mem_append_left _ (List.mem_append_left _ hp))
          obtain ⟨us2, c3, c4⟩ := f2 K' ρ2 H2 st2 x m hr2 fun p hp => gg p (List.mem_append_left _ (List.mem_append_right _ hp))
          obtain ⟨us3, c5, c6⟩ := f3 K' ρ2 H2 st2 x m hr2 fun p hp => gg p (List.mem_append_right _ hp)
          have hi' : i = (zip3D a b c).length := hi
          exact ⟨_, _, _, c1, c3, c5, by rw [hi', zip3D_len, c2.length, c4.length, c6.length]⟩
      · cases q
    · cases q
theorem si_enum (hg : Gl X "enumerate") (hm : X.mg "enumerate" = none) (hp : (e :: er).all plainArg = true) (h : SA X (e :: er) ma) : SI X (.Tuple elts kk tpos) (.Call (.Name "enumerate" p) (e :: er) [] pos) (mEn ma) := fun ξ ρ H σ env st Z e0 hr w => by
  rw [List.all_cons, Bool.and_eq_true] at hp
  refine (pi_enumK hg hm pa_ra (star_cons hp.1) (star_any hp.2)).ri (h ξ ρ H σ env st _ e0 hr (R.wp_mono (R.wp_bd.mp w) fun xs s w1 ρ1 H1 vs x1 h1 r1 hl => ?_))
  cases q : enD xs s with
  | none => rw [q] at w1; exact w1.elim
  | some l =>
    rw [q] at w1
    have w2 := fun J (hJ : Itok (X.kx ξ) ρ1 H1 J l.1 l.2) => w1 ρ1 H1 J x1 h1 hJ
    unfold enD at q
    split at q
    · rename_i x
      split at q
      · rename_i a oa ha
        cases q
        obtain ⟨v1, rfl, ra⟩ := r1.one
        obtain ⟨k1, rfl, l1, ⟨vs1, s1⟩, f1⟩ := knd_of h1 ra ha
        refine ⟨k1, vs1, rfl, s1, w2 _ ⟨by show (enumD 0 a).length ≤ _; rw [enumD_len]; exact l1, ?_, ?_⟩⟩
        · intro K' ρ2 H2 st2 x m hr2 g i d hd
          obtain ⟨d1, e1, rfl⟩ := enumD_at hd
          obtain ⟨us1, c1, c2⟩ := f1 K' ρ2 H2 st2 x m hr2 (jnG_ok g)
          obtain ⟨y1, z1, z2⟩ := c2.get e1
          refine ⟨⟨_, y1, c1, z1⟩, ?_⟩
          rintro v H3 ⟨T, t1, rfl, hT, rfl, g1⟩
          have e3 := g1 _ c1
          rw [z1] at e3
          cases e3
          rw [Nat.zero_add]
          exact rp_pair hr2 hT (by show 2 ≤ sizeLine; decide) (.cons (.int _) (.cons z2 .nil))
        · intro K' ρ2 H2 st2 x m hr2 g i hi
          obtain ⟨us1, c1, c2⟩ := f1 K' ρ2 H2 st2 x m hr2 (jnG_ok g)
          have hi' : i = (enumD 0 a).length := hi
          exact ⟨_, c1, by rw [hi', enumD_len, c2.length]⟩
      · cases q
    · cases q
end
end Rf
set_option maxHeartbeats 4000000
namespace Rf
open PySem PySem.Spec L2
open PyProof.Rows hiding St
/-! ## targets -/
abbrev MG := D → Ev → Sto → R Ev
abbrev MGs := List D → Ev → Sto → R Ev
def SG (X : Cx) (tg : Expr) (sl : List Nat) (m : MG) : Prop := ∀ (ξ ρ : List Addr) (H : Hp) (σ : L2.St) (env : Ev) (st : Sto) (v : V) (d : D) (Z : L2.St → Hp → Prop), Er (X.kx ξ) ρ H σ env → Hr (X.kx ξ) ρ H st → Rp (X.kx ξ) ρ H v d →
  (m d env st).wp (fun env' st' => ∀ ρ' H' σ', Xt ρ H ρ' H' → Hr (X.kx ξ) ρ' H' st' → Er (X.kx ξ) ρ' H' σ' env' → (σ'.length = σ.length ∧ ∀ i, i ∉ sl → σ'[i]? = σ[i]?) → Z σ' H') → RG X tg v σ H Z
def SGs (X : Cx) (ts : List Expr) (sl : List Nat) (m : MGs) : Prop := ∀ (ξ ρ : List Addr) (H : Hp) (σ : L2.St) (env : Ev) (st : Sto) (vs : List V) (ds : List D) (Z : L2.St → Hp → Prop), Er (X.kx ξ) ρ H σ env → Hr (X.kx ξ) ρ H st → Rps (X.kx ξ) ρ H vs ds →
  (m ds env st).wp (fun env' st' => ∀ ρ' H' σ', Xt ρ H ρ' H' → Hr (X.kx ξ) ρ' H' st' → Er (X.kx ξ) ρ' H' σ' env' → (σ'.length = σ.length ∧ ∀ i, i ∉ sl → σ'[i]? = σ[i]?) → Z σ' H') → RGs X ts vs σ H Z
def gNm (i : Nat) : MG := fun d env st => .ok (env.set i (some d)) st
def gNil : MGs := fun ds env st => match ds with
  | [] => .ok env st
  | _ => .bad
def gCons (m : MG) (r : MGs) : MGs := fun ds env st => match ds with
  | d :: ds => (m d env st).bd fun e s => r ds e s
  | [] => .bad
def gTp (n : Nat) (ms : MGs) : MG := fun d env st => match d with
  | .tup ds => if ds.length = n then ms ds env st else .bad
  | _ => .bad
/-- o[i] = d -/
def setIx (x y d : D) (s : Sto) : Option Sto := match x, y with
  | .ref n, .int k => match s[n]? with
    | some (.lst ds) => match ixN ds.length k with
      | some j => some (s.set n (.lst (ds.set j d)))
      | none => none
    | _ => none
  | _, _ => none
def gSub (o i : ME) : MG := fun d env st => (o env st).bd fun x s => (i env s).bd fun y s2 => match setIx x y d s2 with
  | some s3 => .ok env s3
  | none => .bad
section
variable {X : Cx} {c : Ci}
theorem sg_name {i : Nat} {x : Str} {pos : Pos} (g : Gd X c) (hi : c.N[i]? = some x) (hx : Loc c.sc x) (hs : x ∈ c.sb) : SG X (.Name x pos) [i] (gNm i) := fun ξ ρ H σ env st v d Z e0 hr r w => by
  refine (pg_name (by rw [g.hN]; exact g.nd) (by rw [g.hN]; exact hi) (by rw [g.hsc]; exact hx) (g.hst x hs)).rg ?_
  exact w ρ H _ (.refl _ _) hr (e0.set r) ⟨by simp, fun j hj => List.getElem?_set_ne (fun z => hj (by simp [z]))⟩
theorem sgs_nil : SGs X [] [] gNil := fun ξ ρ H σ env st vs ds Z e0 hr r w => by
  refine pgs_nil.rgs ?_
  cases r with
  | nil => exact ⟨rfl, w ρ H _ (.refl _ _) hr e0 ⟨rfl, fun _ _ => rfl⟩⟩
  | cons => exact w.elim
theorem each_cons {e : Expr} {es : List Expr} {env : Env} (h : plainArg e = true) : assignEach (e :: es) env = (false, assign e env) :: assignEach es env := by cases e <;> first | rfl | exact nomatch h
theorem each_len {env : Env} : ∀ {es : List Expr}, (assignEach es env).length = es.length
  | [] => rfl
  | e :: es => by cases e <;> exact congrArg (· + 1) (each_len (es := es))
theorem each_none {env : Env} : ∀ {es : List Expr}, es.all plainArg = true → (assignEach es env).findIdx? (·.1) = none
  | [], _ => rfl
  | e :: es, h => by
    rw [List.all_cons, Bool.and_eq_true] at h
    rw [each_cons h.1, List.findIdx?_cons]
    have := each_none (es := es) (env := env) h.2
    simp [this]
theorem sgs_cons {e : Expr} {es : List Expr} {sl sl' : List Nat} {m : MG} {ms : MGs} (hp : plainArg e = true) (h : SG X e sl m) (hs : SGs X es sl' ms) : SGs X (e :: es) (sl ++ sl') (gCons m ms) := fun ξ ρ H σ env st vs ds Z e0 hr r w => by
  refine (pgs_cons pg_rg pgs_rgs (by rw [each_cons hp]; rfl)).rgs ?_
  cases r with
  | nil => exact w.elim
  | cons r1 r2 =>
    rename_i v vs d ds
    refine ⟨v, vs, rfl, h ξ ρ H σ env st v d _ e0 hr r1 (R.wp_mono (R.wp_bd.mp w) fun env1 s1 w1 ρ1 H1 σ1 x1 h1 e1 k1 => ?_)⟩
    refine hs ξ ρ1 H1 σ1 env1 s1 vs ds _ e1 h1 (Rps.xt x1 _ _ r2) (R.wp_mono w1 fun env2 s2 w2 ρ2 H2 σ2 x2 h2 e2 k2 => ?_)
    exact w2 ρ2 H2 σ2 (x1.trans x2) h2 e2 ⟨k2.1.trans k1.1, fun i hi => (k2.2 i fun z => hi (List.mem_append_right _ z)).trans (k1.2 i fun z => hi (List.mem_append_left _ z))⟩
theorem sg_tup {es : List Expr} {k : Nat} {pos : Pos} {sl : List Nat} {ms : MGs} (g : Gd X c) (hp : es.all plainArg = true) (h : SGs X es sl ms) : SG X (.Tuple es k pos) sl (gTp es.length ms) := fun ξ ρ H σ env st v d Z e0 hr r w => by
  refine (pg_tup g.calm pgs_rgs each_len (each_none hp)).rg ?_
  cases r with
  | tup f z q =>
    rename_i a xs ds
    have w' : (if ds.length = es.length then ms ds env st else .bad).wp _ := w
    by_cases hl : ds.length = es.length
    · rw [if_pos hl] at w'
      exact ⟨a, xs, rfl, f.sq, by rw [q.length, hl], h ξ ρ H σ env st xs ds Z e0 hr q w'⟩
    · rw [if_neg hl] at w'
      exact w'.elim
  | _ => exact w.elim
def notSlice : Expr → Bool
  | .Slice .. => false
  | _ => true
theorem setIx_ok {K : Kx} {ρ : List Addr} {H : Hp} {v u z : V} {x y d : D} {s s' : Sto} (hr : Hr K ρ H s) (r1 : Rp K ρ H v x) (r2 : Rp K ρ H u y) (r3 : Rp K ρ H z d) (h : setIx x y d s = some s') : ∃ p xs k j, v = .ref p ∧ u = .int k ∧ H p = some (.lst xs) ∧ ixN xs.length k = some j ∧
    Hr K ρ (upd H p (.lst (xs.set j z))) s' ∧ Xt ρ H ρ (upd H p (.lst (xs.set j z))) := by
  cases r1 with
  | ref hn =>
    rename_i a n
    cases r2 with
    | int k =>
      have h' : (match s[n]? with | some (.lst ds) => (match ixN ds.length k with | some j => some (s.set n (.lst (ds.set j d))) | none => none) | _ => none) = some s' := h
      cases e : s[n]? with
      | none => rw [e] at h'; cases h'
      | some o =>
        rw [e] at h'
        cases o with
        | lst ds =>
          have h2 : (match ixN ds.length k with | some j => some (s.set n (.lst (ds.set j d))) | none => none) = some s' := h'
          cases e2 : ixN ds.length k with
          | none => rw [e2] at h2; cases h2
          | some j =>
            rw [e2] at h2
            cases h2
            obtain ⟨xs, q1, q2, q3⟩ := hr.ob n a _ hn e
            obtain ⟨p1, p2⟩ := hr.put (o := .lst (ds.set j d)) (u := .lst (xs.set j z)) hn fun ρ' H' x' e' => ⟨xs.set j z, e', by simpa using q2, Rps.xt x' _ _ (q3.set r3 j)⟩
            exact ⟨a, xs, k, j, rfl, rfl, q1, by rw [q3.length]; exact e2, p1, p2⟩
        | dct => cases h'
        | ins => cases h'
    | _ => cases h
  | _ => cases r2 <;> cases h
theorem sg_sub {o i : Expr} {mo mi : ME} {pos : Pos} (hi : notSlice i = true) (ho : SE X o mo) (hx : SE X i mi) : SG X (.Subscript o i pos) [] (gSub mo mi) := fun ξ ρ H σ env st v d Z e0 hr r w => by
  refine (pg_sub pe_re pe_re set_list (by intro v; cases i <;> first | rfl | exact nomatch hi)).rg ?_
  refine ho ξ ρ H σ env st _ e0 hr (R.wp_mono (R.wp_bd.mp w) fun x s w1 ρ1 H1 v1 x1 h1 r1 => ?_)
  refine hx ξ ρ1 H1 σ env s _ (e0.xt x1) h1 (R.wp_mono (R.wp_bd.mp w1) fun y s2 w2 ρ2 H2 v2 x2 h2 r2 => ?_)
  cases e : setIx x y d s2 with
  | none => rw [e] at w2; exact w2.elim
  | some s3 =>
    rw [e] at w2
    obtain ⟨p, xs, k, j, rfl, rfl, q1, q2, q3, q4⟩ := setIx_ok h2 (r1.xt x2) r2 (r.xt (x1.trans x2)) e
    exact ⟨p, xs, k, j, rfl, rfl, q1, q2, w2 ρ2 _ σ ((x1.trans x2).trans q4) q3 (e0.xt ((x1.trans x2).trans q4)) ⟨rfl, fun _ _ => rfl⟩⟩
end
/-! ## statements -/
def FlP (X : Cx) (ξ ρ : List Addr) (H : Hp) (E : Ends) (fl : Fl) (st' : Sto) : Prop := match fl with
  | .nx e => ∀ ρ' H' σ', Xt ρ H ρ' H' → Hr (X.kx ξ) ρ' H' st' → Er (X.kx ξ) ρ' H' σ' e → E.nx σ' H'
  | .bk e => ∀ ρ' H' σ', Xt ρ H ρ' H' → Hr (X.kx ξ) ρ' H' st' → Er (X.kx ξ) ρ' H' σ' e → E.bk σ' H'
  | .ct e => ∀ ρ' H' σ', Xt ρ H ρ' H' → Hr (X.kx ξ) ρ' H' st' → Er (X.kx ξ) ρ' H' σ' e → E.ct σ' H'
  | .rt d => ∀ ρ' H' v, Xt ρ H ρ' H' → Hr (X.kx ξ) ρ' H' st' → Rp (X.kx ξ) ρ' H' v d → E.rt v H'
theorem FlP.xt {X : Cx} {ξ ρ ρ1 : List Addr} {H H1 : Hp} {E : Ends} {fl : Fl} {s : Sto} (h : FlP X ξ ρ H E fl s) (x : Xt ρ H ρ1 H1) : FlP X ξ ρ1 H1 E fl s := by
  cases fl with
  | nx e => exact fun ρ' H' σ' x' => h ρ' H' σ' (x.trans x')
  | bk e => exact fun ρ' H' σ' x' => h ρ' H' σ' (x.trans x')
  | ct e => exact fun ρ' H' σ' x' => h ρ' H' σ' (x.trans x')
  | rt d => exact fun ρ' H' v x' => h ρ' H' v (x.trans x')
def SX (X : Cx) (st : Stmt) (m : MS) : Prop := ∀ (ξ ρ : List Addr) (H : Hp) (σ : L2.St) (env : Ev) (s : Sto) (E : Ends), Er (X.kx ξ) ρ H σ env → Hr (X.kx ξ) ρ H s → (m env s).wp (FlP X ξ ρ H E) → RX X st E σ H
def SS (X : Cx) (st : List Stmt) (m : MS) : Prop := ∀ (ξ ρ : List Addr) (H : Hp) (σ : L2.St) (env : Ev) (s : Sto) (E : Ends), Er (X.kx ξ) ρ H σ env → Hr (X.kx ξ) ρ H s → (m env s).wp (FlP X ξ ρ H E) → RS X st E σ H
def mPass : MS := fun env st => .ok (.nx env) st
def mBrk : MS := fun env st => .ok (.bk env) st
def mCnt : MS := fun env st => .ok (.ct env) st
def mBad : MS := fun _ _ => .bad
def mExp (a : ME) : MS := fun env st => (a env st).bd fun _ s => .ok (.nx env) s
def mRet (a : ME) : MS := fun env st => (a env st).bd fun d s => .ok (.rt d) s
def mRetN : MS := fun _ st => .ok (.rt .non) st
def mAsg (g : MG) (a : ME) : MS := fun env st => (a env st).bd fun d s => (g d env s).bd fun e s' => .ok (.nx e) s'
def mSeq (a b : MS) : MS := fun env st => (a env st).bd fun f s => match f with
  | .nx e => b e s
  | f => .ok f s
def mIfS (c : MT) (a b : MS) : MS := fun env st => (c env st).bd fun k s => if k then a env s else b env s
section
variable {X : Cx} {c : Ci} {pos : Pos} {st : Stmt} {rest : List Stmt} {ma mb : MS}
theorem ss_nil : SS X [] mPass := fun ξ ρ H σ env s E e0 hr w => pss_nil.rs (w ρ H σ (.refl _ _) hr e0)
theorem ss_one (h : SX X st ma) : SS X [st] ma := fun ξ ρ H σ env s E e0 hr w => (pss_one ps_rx).rs (h ξ ρ H σ env s E e0 hr w)
theorem ss_cons (h : SX X st ma) (hs : SS X rest mb) : SS X (st :: rest) (mSeq ma mb) := fun ξ ρ H σ env s E e0 hr w => by
  refine (pss_cons ps_rx pss_rs).rs ?_
  refine h ξ ρ H σ env s { E with nx := RS X rest E } e0 hr (R.wp_mono (R.wp_bd.mp w) fun f s1 w1 => ?_)
  cases f with
  | nx e => exact fun ρ1 H1 σ1 x1 h1 e1 => hs ξ ρ1 H1 σ1 e s1 E e1 h1 (R.wp_mono w1 fun fl s2 q => q.xt x1)
  | bk e => exact w1
  | ct e => exact w1
  | rt d => exact w1
theorem sx_pass : SX X (.Pass pos) mPass := fun ξ ρ H σ env s E e0 hr w => ps_pass.rx (w ρ H σ (.refl _ _) hr e0)
theorem sx_brk : SX X (.Break pos) mBrk := fun ξ ρ H σ env s E e0 hr w => ps_break.rx (w ρ H σ (.refl _ _) hr e0)
theorem sx_cnt : SX X (.Continue pos) mCnt := fun ξ ρ H σ env s E e0 hr w => ps_continue.rx (w ρ H σ (.refl _ _) hr e0)
theorem sx_bad : SX X st mBad := fun ξ ρ H σ env s E e0 hr w => w.elim
/-- no comprehension -/
def noComp : Expr → Bool
  | .ListComp .. => false
  | .SetComp .. => false
  | .DictComp .. => false
  | _ => true
theorem swaps_no {e : Expr} {t : Option Expr} {l : Nat} {env : Env} (h : noComp e = true) : swapsWith e t l env = pure false := by cases e <;> first | rfl | exact nomatch h
theorem sx_exp {e : Expr} {m : ME} (hn : noComp e = true) (h : SE X e m) : SX X (.Expr e pos) (mExp m) := fun ξ ρ H σ env s E e0 hr w =>
  (ps_expr pe_re (swaps_no hn)).rx (h ξ ρ H σ env s _ e0 hr (R.wp_mono (R.wp_bd.mp w) fun d s1 w1 ρ1 H1 v x1 h1 r1 => w1 ρ1 H1 σ x1 h1 (e0.xt x1)))
theorem sx_ret {e : Expr} {m : ME} (h : SE X e m) : SX X (.Return (some e) pos) (mRet m) := fun ξ ρ H σ env s E e0 hr w =>
  (ps_ret pe_re).rx (h ξ ρ H σ env s _ e0 hr (R.wp_mono (R.wp_bd.mp w) fun d s1 w1 ρ1 H1 v x1 h1 r1 => w1 ρ1 H1 v x1 h1 r1))
theorem sx_retN : SX X (.Return none pos) mRetN := fun ξ ρ H σ env s E e0 hr w => ps_retN.rx (w ρ H .non (.refl _ _) hr .non)
theorem sx_if {t : Expr} {a b : List Stmt} {mt : MT} (ht : ST X t mt) (ha : SS X a ma) (hb : SS X b mb) : SX X (.If t a b pos) (mIfS mt ma mb) := fun ξ ρ H σ env s E e0 hr w => by
  refine (ps_if pt_rt pss_rs pss_rs).rx (ht ξ ρ H σ env s _ e0 hr (R.wp_mono (R.wp_bd.mp w) fun k s1 w1 ρ1 H1 x1 h1 => ?_))
  cases k with
  | true => exact iteT (ha ξ ρ1 H1 σ env s1 E (e0.xt x1) h1 (R.wp_mono w1 fun fl s2 q => q.xt x1))
  | false => exact iteF (hb ξ ρ1 H1 σ env s1 E (e0.xt x1) h1 (R.wp_mono w1 fun fl s2 q => q.xt x1))
/-- target = value, the plain way -/
theorem sx_asg {t e : Expr} {sl : List Nat} {g : MG} {m : ME} (hn : noComp e = true) (hs : swappedStores [t] e X.env = pure none) (hp : plainArg t = true) (hg : SG X t sl g) (h : SE X e m) : SX X (.Assign [t] e pos) (mAsg g m) := fun ξ ρ H σ env s E e0 hr w => by
  refine (ps_asg pe_re pg_rg (swaps_no hn) hs (by rw [each_cons hp]; rfl)).rx ?_
  refine h ξ ρ H σ env s _ e0 hr (R.wp_mono (R.wp_bd.mp w) fun d s1 w1 ρ1 H1 v x1 h1 r1 => ?_)
  exact hg ξ ρ1 H1 σ env s1 v d E.nx (e0.xt x1) h1 r1 (R.wp_mono (R.wp_bd.mp w1) fun env2 s2 w2 ρ2 H2 σ2 x2 h2 e2 _ => w2 ρ2 H2 σ2 (x1.trans x2) h2 e2)
/-- name = value -/
theorem sx_set {i : Nat} {x : Str} {e : Expr} {m : ME} {pos' : Pos} (g : Gd X c) (hi : c.N[i]? = some x) (hx : Loc c.sc x) (hs : x ∈ c.sb) (hw : swapsWith e (some (.Name x pos')) pos.line X.env = pure false) (h : SE X e m) : SX X (.Assign [.Name x pos'] e pos) (mAsg (gNm i) m) := fun ξ ρ H σ env s E e0 hr w => by
  refine (ps_set (by rw [g.hN]; exact g.nd) (by rw [g.hN]; exact hi) (by rw [g.hsc]; exact hx) pe_re hw (g.hst x hs)).rx ?_
  exact h ξ ρ H σ env s _ e0 hr (R.wp_mono (R.wp_bd.mp w) fun d s1 w1 ρ1 H1 v x1 h1 r1 => w1 ρ1 H1 _ x1 h1 ((e0.xt x1).set r1))
end
/-! ### while -/
def whl (c : MT) (b : MS) : Nat → Ev → Sto → R Fl
  | 0, _, _ => .bad
  | n + 1, env, st => (c env st).bd fun k s => if k then (b env s).bd fun f s2 => match f with
      | .nx e => whl c b n e s2
      | .ct e => whl c b n e s2
      | .bk e => .ok (.nx e) s2
      | .rt d => .ok (.rt d) s2
    else .ok (.nx env) s
def mWhl (n : Nat) (c : MT) (b : MS) : MS := fun env st => whl c b n env st
section
variable {X : Cx} {c : Ci} {pos : Pos}
theorem Gd.pass (g : Gd X c) : PassesOwn (model X.prog X.w) X.A X.env X.xe := by rw [g.xe]; exact PassesOwn.never
theorem sx_while {t : Expr} {b : List Stmt} {mt : MT} {mb : MS} {n : Nat} (g : Gd X c) (ht : ST X t mt) (hb : SS X b mb) : SX X (.While t b [] pos) (mWhl n mt mb) := fun ξ ρ H σ env s E e0 hr w => by
  refine (ps_while g.pass pt_rt pss_rs).rx ?_
  refine ⟨fun m σ' H' => ∃ ρ' env' s', Xt ρ H ρ' H' ∧ Hr (X.kx ξ) ρ' H' s' ∧ Er (X.kx ξ) ρ' H' σ' env' ∧ (whl mt mb m env' s').wp (FlP X ξ ρ H E), ⟨n, ρ, env, s, .refl _ _, hr, e0, w⟩, ?_⟩
  rintro m σ1 H1 ⟨ρ1, env1, s1, x1, h1, e1, w1⟩
  cases m with
  | zero => exact w1.elim
  | succ m =>
    refine ht ξ ρ1 H1 σ1 env1 s1 _ e1 h1 (R.wp_mono (R.wp_bd.mp w1) fun k s2 w2 ρ2 H2 x2 h2 => ?_)
    cases k with
    | false => exact iteF (w2 ρ2 H2 σ1 (x1.trans x2) h2 (e1.xt x2))
    | true =>
      refine iteT ⟨fun σ' H' => ∃ ρ' env' s', Xt ρ H ρ' H' ∧ Hr (X.kx ξ) ρ' H' s' ∧ Er (X.kx ξ) ρ' H' σ' env' ∧ (whl mt mb m env' s').wp (FlP X ξ ρ H E), fun σ' H' q => ⟨m, Nat.lt_succ_self m, q⟩, ?_⟩
      refine hb ξ ρ2 H2 σ1 env1 s2 _ (e1.xt x2) h2 (R.wp_mono (R.wp_bd.mp w2) fun f s3 w3 => ?_)
      cases f with
      | nx e => exact fun ρ3 H3 σ3 x3 h3 e3 => ⟨ρ3, e, s3, (x1.trans x2).trans x3, h3, e3, w3⟩
      | ct e => exact fun ρ3 H3 σ3 x3 h3 e3 => ⟨ρ3, e, s3, (x1.trans x2).trans x3, h3, e3, w3⟩
      | bk e => exact fun ρ3 H3 σ3 x3 h3 e3 => w3 ρ3 H3 σ3 ((x1.trans x2).trans x3) h3 e3
      | rt d => exact fun ρ3 H3 v x3 h3 r3 => w3 ρ3 H3 v ((x1.trans x2).trans x3) h3 r3
end
/-! ### for -/
mutual
def D.beq : D → D → Bool
  | .non, .non => true
  | .bl a, .bl b => a == b
  | .int a, .int b => a == b
  | .str a, .str b => a == b
  | .tup a, .tup b => D.beqs a b
  | .lst a, .lst b => D.beqs a b
  | .ro a, .ro b => D.beqs a b
  | .ref a, .ref b => a == b
  | _, _ => false
def D.beqs : List D → List D → Bool
  | [], [] => true
  | a :: as, b :: bs => D.beq a b && D.beqs as bs
  | _, _ => false
end
mutual
theorem D.beq_eq : ∀ (a b : D), D.beq a b = true → a = b
  | .non, b, h => by cases b <;> simp [D.beq] at h ⊢
  | .bl x, b, h => by cases b <;> simp [D.beq] at h ⊢; exact h
  | .int x, b, h => by cases b <;> simp [D.beq] at h ⊢; exact h
  | .str x, b, h => by cases b <;> simp [D.beq] at h ⊢; exact h
  | .tup x, b, h => by cases b <;> simp [D.beq] at h ⊢; exact D.beqs_eq _ _ h
  | .lst x, b, h => by cases b <;> simp [D.beq] at h ⊢; exact D.beqs_eq _ _ h
  | .ro x, b, h => by cases b <;> simp [D.beq] at h ⊢; exact D.beqs_eq _ _ h
  | .ref x, b, h => by cases b <;> simp [D.beq] at h ⊢; exact h
  | .dct x, b, h => by cases b <;> simp [D.beq] at h
  | .fn x, b, h => by cases b <;> simp [D.beq] at h
  | .err x y, b, h => by cases b <;> simp [D.beq] at h
theorem D.beqs_eq : ∀ (a b : List D), D.beqs a b = true → a = b
  | [], b, h => by cases b <;> simp [D.beqs] at h ⊢
  | x :: xs, b, h => by
    cases b with
    | nil => simp [D.beqs] at h
    | cons y ys =>
      simp [D.beqs] at h
      rw [D.beq_eq x y h.1, D.beqs_eq xs ys h.2]
end
def atB (n : Nat) (ds : List D) (st : Sto) : Bool := match st[n]? with
  | some (.lst es) => D.beqs es ds
  | _ => false
theorem atB_ok {n : Nat} {ds : List D} {st : Sto} (h : atB n ds st = true) : st[n]? = some (.lst ds) := by
  unfold atB at h
  cases e : st[n]? with
  | none => rw [e] at h; cases h
  | some u =>
    rw [e] at h
    cases u with
    | lst es => rw [D.beqs_eq es ds h]
    | dct => cases h
    | ins => cases h
def gstB (o : Option Gk) (ds : List D) (st : Sto) : Bool := match o with
  | none => true
  | some (.one n) => atB n ds st
  | some (.many l) => l.all fun p => atB p.1 p.2 st
theorem gstB_ok {o : Option Gk} {ds : List D} {st : Sto} (h : gstB o ds st = true) : gst o ds st := by
  cases o with
  | none => trivial
  | some k =>
    cases k with
    | one n => exact atB_ok h
    | many l => exact fun p hp => atB_ok (List.all_eq_true.mp h p hp)
/-- the turns that are left -/
def forL (g : MG) (b : MS) (o : Option Gk) (all : List D) : List D → Ev → Sto → R Fl
  | [], env, st => if gstB o all st then .ok (.nx env) st else .bad
  | d :: r, env, st => if gstB o all st then (g d env st).bd fun e s => (b e s).bd fun f s2 => match f with
      | .nx e => forL g b o all r e s2
      | .ct e => forL g b o all r e s2
      | .bk e => .ok (.nx e) s2
      | .rt d => .ok (.rt d) s2
    else .bad
def mFor (g : MG) (it : MI) (b : MS) : MS := fun env st => (it env st).bd fun p s => forL g b p.2 p.1 p.1 env s
def noSet : Expr → Bool
  | .Set .. => false
  | _ => true
theorem folded_no {e : Expr} (h : noSet e = true) : ∀ (env : Env) (x : Value), foldedSetIterable e env x = pure x := by
  intro env x
  cases e <;> first | rfl | exact nomatch h
section
variable {X : Cx} {c : Ci} {pos : Pos}
theorem sx_for {tg it : Expr} {b : List Stmt} {sl : List Nat} {g : MG} {mi : MI} {mb : MS} (gd : Gd X c) (hn : noSet it = true) (hg : SG X tg sl g) (hi : SI X tg it mi) (hb : SS X b mb) : SX X (.For tg it b [] pos) (mFor g mi mb) := fun ξ ρ H σ env s E e0 hr w => by
  refine (ps_for gd.pass gd.calm pi_ri pg_rg pss_rs (folded_no hn X.env)).rx ?_
  refine hi ξ ρ H σ env s _ e0 hr (R.wp_mono (R.wp_bd.mp w) fun p s1 w1 ρ1 H1 J x1 h1 J1 => ?_)
  obtain ⟨ds, o⟩ := p
  have w1' : (forL g mb o ds ds env s1).wp (FlP X ξ ρ H E) := w1
  refine ⟨fun i m σ' H' => m = ds.length - i ∧ i ≤ ds.length ∧ ∃ ρ' env' s', Xt ρ1 H1 ρ' H' ∧ Hr (X.kx ξ) ρ' H' s' ∧ Er (X.kx ξ) ρ' H' σ' env' ∧ (forL g mb o ds (ds.drop i) env' s').wp (FlP X ξ ρ H E), ⟨_, rfl, Nat.zero_le _, ρ1, env, s1, .refl _ _, h1, e0.xt x1, w1'⟩, ?_⟩
  rintro i m σ2 H2 ⟨rfl, hi3, ρ2, env2, s2, x2, h2, e2, w2⟩
  have gs : gstB o ds s2 = true := by
    cases q : gstB o ds s2 with
    | true => rfl
    | false =>
      exfalso
      cases r : ds.drop i with
      | nil => rw [r] at w2; unfold forL at w2; rw [q] at w2; exact w2
      | cons d l => rw [r] at w2; unfold forL at w2; rw [q] at w2; exact w2
  have mre : Mre (X.kx ξ) (X.kx ξ) H1 := ⟨rfl, fun a ha => .inl ha⟩
  by_cases hl : i < ds.length
  · have hd : ds.drop i = ds[i] :: ds.drop (i + 1) := List.drop_eq_getElem_cons hl
    rw [hd] at w2
    unfold forL at w2
    rw [if_pos gs] at w2
    obtain ⟨q1, q2⟩ := J1.go (X.kx ξ) ρ2 H2 s2 x2 mre h2 (gstB_ok gs) i _ (List.getElem?_eq_getElem hl)
    refine .inr ⟨q1, fun σ' H' => ∃ ρ' env' s', Xt ρ1 H1 ρ' H' ∧ Hr (X.kx ξ) ρ' H' s' ∧ Er (X.kx ξ) ρ' H' σ' env' ∧ (forL g mb o ds (ds.drop (i + 1)) env' s').wp (FlP X ξ ρ H E), fun σ' H' q => ⟨ds.length - (i + 1), by omega, rfl, hl, q⟩, fun x H3 y => ?_⟩
    obtain ⟨sm, rx⟩ := q2 x H3 y
    refine hg ξ ρ2 H3 σ2 env2 s2 x _ _ (e2.xt (.same sm)) (h2.same sm) rx (R.wp_mono (R.wp_bd.mp w2) fun env4 s4 w4 ρ4 H4 σ4 x4 h4 e4 _ => ?_)
    refine hb ξ ρ4 H4 σ4 env4 s4 _ e4 h4 (R.wp_mono (R.wp_bd.mp w4) fun f s5 w5 => ?_)
    have xx : Xt ρ1 H1 ρ4 H4 := (x2.trans (.same sm)).trans x4
    cases f with
    | nx e => exact fun ρ5 H5 σ5 x5 h5 e5 => ⟨ρ5, e, s5, xx.trans x5, h5, e5, w5⟩
    | ct e => exact fun ρ5 H5 σ5 x5 h5 e5 => ⟨ρ5, e, s5, xx.trans x5, h5, e5, w5⟩
    | bk e => exact fun ρ5 H5 σ5 x5 h5 e5 => w5 ρ5 H5 σ5 ((x1.trans xx).trans x5) h5 e5
    | rt d => exact fun ρ5 H5 v x5 h5 r5 => w5 ρ5 H5 v ((x1.trans xx).trans x5) h5 r5
  · have hd : ds.drop i = [] := List.drop_eq_nil_of_le (by omega)
    rw [hd] at w2
    unfold forL at w2
    rw [if_pos gs] at w2
    exact .inl ⟨J1.stop (X.kx ξ) ρ2 H2 s2 x2 mre h2 (gstB_ok gs) i (show i = ds.length by omega), w2 ρ2 H2 σ2 (x1.trans x2) h2 e2⟩
end
end Rf
set_option maxHeartbeats 4000000
namespace Rf
open PySem PySem.Spec L2
open PyProof.Rows hiding St
/-! ## comprehensions -/
def RTs (X : Cx) (ifs : List Expr) : TT := fun σ H Q => ∀ (pins : List (Addr × Obj)) (s : Shared), Inv X pins σ H s →
  wpAny (model X.prog X.w) X.A (forIn ifs true fun c r => if r = true then do let ok ← isTrue c X.env (eval c X.env); pure (ForInStep.yield ok) else pure (ForInStep.yield r)) (TP X pins σ Q) X.xe s
theorem pts_rts {X : Cx} {ifs : List Expr} : PTs X ifs (RTs X ifs) := ⟨fun pins s _ _ _ I h => h pins s I⟩
def STs (X : Cx) (ifs : List Expr) (m : MT) : Prop := ∀ (ξ ρ : List Addr) (H : Hp) (σ : L2.St) (env : Ev) (st : Sto) (Q : Bool → Hp → Prop), Er (X.kx ξ) ρ H σ env → Hr (X.kx ξ) ρ H st →
  (m env st).wp (fun b st' => ∀ ρ' H', Xt ρ H ρ' H' → Hr (X.kx ξ) ρ' H' st' → Q b H') → RTs X ifs σ H Q
def mYes : MT := fun _ st => .ok true st
theorem sts_nil {X : Cx} : STs X [] mYes := fun ξ ρ H σ env st Q e0 hr w pins s I => pts_nil.run pins s σ H Q I (w ρ H (.refl _ _) hr)
theorem sts_one {X : Cx} {e : Expr} {m : MT} (h : ST X e m) : STs X [e] m := fun ξ ρ H σ env st Q e0 hr w pins s I => (pts_one pt_rt).run pins s σ H Q I (h ξ ρ H σ env st Q e0 hr w)
def lcL (vs : List Nat) (g : MG) (mt : MT) (me : ME) (o : Option Gk) (all : List D) (env : Ev) : List D → Sto → List D → R (List D)
  | [], st, acc => if gstB o all st then .ok acc st else .bad
  | d :: r, st, acc => if gstB o all st then (g d (wipeE env vs) st).bd fun e s => (mt e s).bd fun k s2 => if k then (me e s2).bd fun y s3 => lcL vs g mt me o all env r s3 (acc ++ [y])
      else lcL vs g mt me o all env r s2 acc
    else .bad
def mLc (m : Bool) (vs : List Nat) (g : MG) (mt : MT) (me : ME) (mi : MI) : ME := fun env st => (mi env st).bd fun p s => (lcL vs g mt me p.2 p.1 env p.1 s []).bd fun acc s2 => newL m acc s2
section
variable {K K' : Kx} {ρ ρ' : List Addr} {H H' : Hp}
/-- only places that are kept apart have changed -/
def Ag (K : Kx) (H H' : Hp) : Prop := ∀ a, a ∉ K.ex → H' a = H a
theorem Ag.rd (g : Ag K H H') {a : Addr} {u : HO} (f : Fr1 K ρ a) (h : Rd H a u) : Rd H' a u := by
  have e := g a f.2
  rcases h with h | ⟨o, h⟩
  · exact .inl (by rw [e]; exact h)
  · exact .inr ⟨o, by rw [e]; exact h⟩
mutual
theorem Rp.ag (g : Ag K H H') : ∀ (d : D) (v : V), Rp K ρ H v d → Rp K ρ H' v d
  | _, _, .non => .non
  | _, _, .bl b => .bl b
  | _, _, .int i => .int i
  | _, _, .str y => .str y
  | .tup ds, _, .tup h z r => .tup (h.imp (fun q => ⟨q.1, g.rd q.1 q.2⟩) id) z (Rps.ag g ds _ r)
  | .lst ds, _, .lst n h z r => .lst n (by rw [g _ n.2]; exact h) z (Rps.ag g ds _ r)
  | .ro ds, _, .ro h z r => .ro (h.imp (fun q => ⟨q.1, g.rd q.1 q.2⟩) id) z (Rps.ag g ds _ r)
  | _, _, .ref h => .ref h
  | _, _, .dct n h => .dct n (by rw [g _ n.2]; exact h)
theorem Rps.ag (g : Ag K H H') : ∀ (ds : List D) (vs : List V), Rps K ρ H vs ds → Rps K ρ H' vs ds
  | [], _, .nil => .nil
  | d :: ds, _, .cons h r => .cons (Rp.ag g d _ h) (Rps.ag g ds _ r)
end
theorem Er.ag (g : Ag K H H') {σ : L2.St} {env : Ev} (h : Er K ρ H σ env) : Er K ρ H' σ env := ⟨h.len, fun i d e => let ⟨v, h1, h2⟩ := h.at_ i d e; ⟨v, h1, Rp.ag g d v h2⟩⟩
theorem Hr.ag (g : Ag K H H') (l : ∀ a ∈ K.ex, ∃ o, H' a = some o) {st : Sto} (h : Hr K ρ H st) : Hr K ρ H' st := ⟨h.len, h.nd, l, h.exd, fun n a o e1 e2 => by
  have q := h.ob n a o e1 e2
  have na : a ∉ K.ex := fun z => h.exd a z (List.mem_of_getElem? e1)
  cases o with
  | lst ds => obtain ⟨xs, a1, a2, a3⟩ := q; exact ⟨xs, by rw [g a na]; exact a1, a2, Rps.ag g _ _ a3⟩
  | dct => exact q
  | ins => exact q⟩
/-- a place that was kept apart becomes the store's -/
structure Ado (K K' : Kx) (p : Addr) : Prop where
  k : K'.K = K.K
  s : ∀ a, a ∈ K.ex ↔ a = p ∨ a ∈ K'.ex
theorem Ado.fr {p : Addr} (d : Ado K K' p) {a : Addr} (f : Fr1 K ρ a) : Fr1 K' (ρ ++ [p]) a := by
  refine ⟨fun z => ?_, fun z => f.2 ((d.s a).mpr (.inr z))⟩
  rcases List.mem_append.mp z with z | z
  · exact f.1 z
  · exact f.2 ((d.s a).mpr (.inl (by simpa using z)))
mutual
theorem Rp.ado {p : Addr} (l : Ado K K' p) : ∀ (d : D) (v : V), Rp K ρ H v d → Rp K' (ρ ++ [p]) H v d
  | _, _, .non => .non
  | _, _, .bl b => .bl b
  | _, _, .int i => .int i
  | _, _, .str y => .str y
  | .tup ds, _, .tup h z r => .tup (h.imp (fun q => ⟨l.fr q.1, q.2⟩) fun q => by rw [l.k]; exact q) z (Rps.ado l ds _ r)
  | .lst ds, _, .lst n h z r => .lst (l.fr n) h z (Rps.ado l ds _ r)
  | .ro ds, _, .ro h z r => .ro (h.imp (fun q => ⟨l.fr q.1, q.2⟩) fun q => by rw [l.k]; exact q) z (Rps.ado l ds _ r)
  | _, _, .ref h => .ref (by rw [List.getElem?_append_left (List.getElem?_eq_some_iff.mp h).1]; exact h)
  | _, _, .dct n h => .dct (l.fr n) h
theorem Rps.ado {p : Addr} (l : Ado K K' p) : ∀ (ds : List D) (vs : List V), Rps K ρ H vs ds → Rps K' (ρ ++ [p]) H vs ds
  | [], _, .nil => .nil
  | d :: ds, _, .cons h r => .cons (Rp.ado l d _ h) (Rps.ado l ds _ r)
end
theorem Hr.ado {p : Addr} (l : Ado K K' p) (np : p ∉ K'.ex) {st : Sto} {ds : List D} {xs : List V} (h : Hr K ρ H st) (hp : H p = some (.lst xs)) (hz : xs.length ≤ sizeLine) (r : Rps K ρ H xs ds) : Hr K' (ρ ++ [p]) H (st ++ [.lst ds]) := by
  have pr : p ∉ ρ := h.exd p ((l.s p).mpr (.inl rfl))
  refine ⟨by simp [h.len], ?_, fun a ha => h.exl a ((l.s a).mpr (.inr ha)), fun a ha z => ?_, fun n a o e1 e2 => ?_⟩
  · rw [List.nodup_append]
    exact ⟨h.nd, by simp, fun a ha b hb e => by
      have e' : b = p := by simpa using hb
      subst e' e; exact pr ha⟩
  · rcases List.mem_append.mp z with z | z
    · exact h.exd a ((l.s a).mpr (.inr ha)) z
    · have e : a = p := by simpa using z
      subst e
      exact np ha
  · by_cases hn : n < ρ.length
    · rw [List.getElem?_append_left hn] at e1
      rw [List.getElem?_append_left (by rw [← h.len]; exact hn)] at e2
      have q := h.ob n a o e1 e2
      cases o with
      | lst es => obtain ⟨ys, a1, a2, a3⟩ := q; exact ⟨ys, a1, a2, Rps.ado l _ _ a3⟩
      | dct => exact q
      | ins => exact q
    · have h1 : n = ρ.length := by
        have := (List.getElem?_eq_some_iff.mp e1).1
        simp at this; omega
      subst h1
      simp at e1
      rw [h.len] at e2
      simp at e2
      subst e1 e2
      exact ⟨xs, hp, hz, Rps.ado l _ _ r⟩
end
/-- the list that a comprehension has made, in the end -/
theorem made {K : PySem.W.Frag} {ξ ρ1 ρ : List Addr} {H1 H : Hp} {st : Sto} {m : Bool} {acc : List D} {xs : List V} {p : Addr} {Q : VK} (np : H1 p = none) (n1 : p ∉ ρ1) (nx : p ∉ ξ) (x : Xt ρ1 H1 ρ H) (h : Hr ⟨K, p :: ξ⟩ ρ H st) (hp : H p = some (.lst xs)) (hz : xs.length ≤ sizeLine)
    (r : Rps ⟨K, p :: ξ⟩ ρ H xs acc) (w : (newL m acc st).wp fun d s' => ∀ ρ' H' v', Xt ρ1 H1 ρ' H' → Hr ⟨K, ξ⟩ ρ' H' s' → Rp ⟨K, ξ⟩ ρ' H' v' d → Q v' H') : Q (.ref p) H := by
  have l : Lss ⟨K, p :: ξ⟩ ⟨K, ξ⟩ := ⟨rfl, fun a q => List.mem_cons_of_mem _ q⟩
  unfold newL at w
  cases m with
  | false =>
    exact w ρ H _ x (h.less l) (.lst ⟨h.exd p List.mem_cons_self, nx⟩ hp hz (Rps.less l _ _ r))
  | true =>
    have l2 : Ado ⟨K, p :: ξ⟩ ⟨K, ξ⟩ p := ⟨rfl, fun a => List.mem_cons⟩
    refine w (ρ ++ [p]) H _ ?_ (Hr.ado l2 nx h hp hz r) (.ref ?_)
    · obtain ⟨⟨l', e, hl⟩, k⟩ := x
      refine ⟨⟨l' ++ [p], by rw [e, List.append_assoc], fun a ha => ?_⟩, k⟩
      rcases List.mem_append.mp ha with q | q
      · exact hl a q
      · have e' : a = p := by simpa using q
        subst e'
        exact ⟨np, n1⟩
    · rw [← h.len]
      simp
/-- what the blocks ask, all at once -/
def allE (X : Cx) (scope : Scope) (e : Expr) : TE := fun σ H Q => ∀ (s : Shared) (H0 : Hp) (C : Addr) (cl : List (Str × Addr)) (fp : List Addr), RE (X.blk s H0 scope (compEnvC scope cl C X.env) fp) e σ H Q
def allT (X : Cx) (scope : Scope) (es : List Expr) : TT := fun σ H Q => ∀ (s : Shared) (H0 : Hp) (C : Addr) (cl : List (Str × Addr)) (fp : List Addr), RTs (X.blk s H0 scope (compEnvC scope cl C X.env) fp) es σ H Q
def allG (X : Cx) (scope : Scope) (t : Expr) : TG := fun v σ H Q => ∀ (s : Shared) (H0 : Hp) (C : Addr) (cl : List (Str × Addr)) (fp : List Addr), RG (X.blk s H0 scope (compEnvC scope cl C X.env) fp) t v σ H Q
theorem wipe_same {σ σ' : L2.St} {vs sl : List Nat} (hs : ∀ i ∈ sl, i ∈ vs) (hl : σ'.length = σ.length) (h : ∀ i, i ∉ sl → σ'[i]? = σ[i]?) : wipe σ' vs = wipe σ vs := by
  have at_ : ∀ (τ : L2.St) (ws : List Nat) (i : Nat), (wipe τ ws)[i]? = if i ∈ ws then (if i < τ.length then some none else none) else τ[i]? := by
    intro τ ws
    induction ws with
    | nil => intro i; simp [wipe]
    | cons v ws ih =>
      intro i
      show ((wipe τ ws).set v none)[i]? = _
      by_cases e : v = i
      · subst e
        rw [List.getElem?_set_self', ih]
        by_cases q : v ∈ ws
        · by_cases z : v < τ.length <;> simp [q, z]
        · by_cases z : v < τ.length
          · simp [q, z, List.getElem?_eq_getElem z]
          · simp [q, z]
      · rw [List.getElem?_set_ne e, ih]
        have : (i ∈ v :: ws) = (i ∈ ws) := by simp [Ne.symm e]
        simp only [this]
  apply List.ext_getElem?
  intro i
  rw [at_, at_, hl]
  by_cases q : i ∈ vs
  · simp [q]
  · simp only [q, if_false]
    exact h i fun z => q (hs i z)
theorem wipe_idem (σ : L2.St) (vs : List Nat) : wipe (wipe σ vs) vs = wipe σ vs := by
  have at_ : ∀ (τ : L2.St) (ws : List Nat) (i : Nat), i ∈ ws → i < τ.length → (wipe τ ws)[i]? = some none := by
    intro τ ws
    induction ws with
    | nil => intro i h; cases h
    | cons v ws ih =>
      intro i h hl
      show ((wipe τ ws).set v none)[i]? = _
      by_cases e : v = i
      · subst e
        rw [List.getElem?_set_self (by rw [wipe_length]; exact hl)]
      · rw [List.getElem?_set_ne e]
        exact ih i (by rcases List.mem_cons.mp h with q | q; exact absurd q.symm e; exact q) hl
  apply List.ext_getElem?
  intro i
  by_cases q : i ∈ vs
  · by_cases z : i < σ.length
    · rw [at_ _ vs i q (by rw [wipe_length]; exact z), at_ _ vs i q z]
    · rw [List.getElem?_eq_none (by rw [wipe_length, wipe_length]; omega), List.getElem?_eq_none (by rw [wipe_length]; omega)]
  · rw [wipe_out q]
section
variable {X : Cx} {c : Ci} {elt tg iter : Expr} {ifs : List Expr} {scope : Scope} {own : List (Str × Nat)} {pos spos : Pos} {sl : List Nat} {g : MG} {mt : MT} {me : ME} {mi : MI} {m : Bool}
theorem lc_read (gd : Gd X c) (hi : SI X tg iter mi) (hsl : ∀ i ∈ sl, i ∈ own.map (·.2))
    (hg : ∀ (s : Shared) (H : Hp) (C : Addr) (cl : List (Str × Addr)) (fp : List Addr), SG (X.blk s H scope (compEnvC scope cl C X.env) fp) tg sl g)
    (ht : ∀ (s : Shared) (H : Hp) (C : Addr) (cl : List (Str × Addr)) (fp : List Addr), STs (X.blk s H scope (compEnvC scope cl C X.env) fp) ifs mt)
    (he : ∀ (s : Shared) (H : Hp) (C : Addr) (cl : List (Str × Addr)) (fp : List Addr), SE (X.blk s H scope (compEnvC scope cl C X.env) fp) elt me)
    {ξ ρ : List Addr} {H : Hp} {σ : L2.St} {env : Ev} {st : Sto} {Q : VK} (e0 : Er (X.kx ξ) ρ H σ env) (hr : Hr (X.kx ξ) ρ H st)
    (w : (mLc m (own.map (·.2)) g mt me mi env st).wp fun d st' => ∀ ρ' H' v, Xt ρ H ρ' H' → Hr (X.kx ξ) ρ' H' st' → Rp (X.kx ξ) ρ' H' v d → Q v H') :
    tLc (RI X tg iter) (allG X scope tg) (allT X scope ifs) (allE X scope elt) (own.map (·.2)) σ H Q := by
  refine hi ξ ρ H σ env st _ e0 hr (R.wp_mono (R.wp_bd.mp w) fun p s1 w1 ρ1 H1 J x1 h1 J1 => ?_)
  obtain ⟨ds, o⟩ := p
  intro P hP
  have len1 : ds.length ≤ sizeLine := J1.len
  generalize own.map (·.2) = vs at *
  have nP := h1.new hP
  -- the made list's place is kept apart
  have mre : Mre (X.kx ξ) ⟨X.K, P :: ξ⟩ H1 := ⟨rfl, fun a ha => by
    rcases List.mem_cons.mp ha with q | q
    · exact .inr (by rw [q]; exact hP)
    · exact .inl q⟩
  have w1' : (lcL vs g mt me o ds env ds s1 []).wp fun acc s2 => (newL m acc s2).wp fun d st' => ∀ ρ' H' v, Xt ρ H ρ' H' → Hr (X.kx ξ) ρ' H' st' → Rp (X.kx ξ) ρ' H' v d → Q v H' := R.wp_bd.mp w1
  have x2 : Xt ρ1 H1 ρ1 (upd H1 P (.lst [])) := .same (same_upd hP)
  have h2 : Hr ⟨X.K, P :: ξ⟩ ρ1 (upd H1 P (.lst [])) s1 := by
    have b : Hr (X.kx ξ) ρ1 (upd H1 P (.lst [])) s1 := h1.same (same_upd hP)
    refine ⟨b.len, b.nd, fun a ha => ?_, fun a ha => ?_, fun n a o e1 e2 => ?_⟩
    · rcases List.mem_cons.mp ha with q | q
      · exact ⟨_, by rw [q]; exact upd_same⟩
      · exact b.exl a q
    · rcases List.mem_cons.mp ha with q | q
      · rw [q]; exact nP.1
      · exact b.exd a q
    · have q := h1.ob n a o e1 e2
      cases o with
      | lst es => obtain ⟨ys, a1, a2, a3⟩ := q; exact ⟨ys, same_upd hP _ _ a1, a2, Rps.xt x2 _ _ (Rps.more mre _ _ a3)⟩
      | dct => exact q
      | ins => exact q
  refine ⟨fun i k H' => k = ds.length - i ∧ ∃ ρ' st' acc xs, Xt ρ1 H1 ρ' H' ∧ Hr ⟨X.K, P :: ξ⟩ ρ' H' st' ∧ H' P = some (.lst xs) ∧ xs.length ≤ i ∧ i ≤ ds.length ∧ Rps ⟨X.K, P :: ξ⟩ ρ' H' xs acc ∧ Er ⟨X.K, P :: ξ⟩ ρ' H' (wipe σ vs) (wipeE env vs) ∧
      (lcL vs g mt me o ds env (ds.drop i) st' acc).wp fun acc s2 => (newL m acc s2).wp fun d st' => ∀ ρ' H' v, Xt ρ H ρ' H' → Hr (X.kx ξ) ρ' H' st' → Rp (X.kx ξ) ρ' H' v d → Q v H',
    ⟨_, rfl, ρ1, s1, [], [], x2, h2, upd_same, Nat.le_refl _, Nat.zero_le _, .nil, ((Er.more mre (e0.xt x1)).xt x2).wipe vs, w1'⟩, ?_⟩
  rintro i k H2 ⟨rfl, ρ2, st2, acc, xs, x3, h3, hp3, hl3, hi3, r3, e3, w3⟩
  have gs : gstB o ds st2 = true := by
    cases q : gstB o ds st2 with
    | true => rfl
    | false =>
      exfalso
      cases r : ds.drop i with
      | nil => rw [r] at w3; unfold lcL at w3; rw [q] at w3; exact w3
      | cons d l => rw [r] at w3; unfold lcL at w3; rw [q] at w3; exact w3
  by_cases hl : i < ds.length
  · have hd : ds.drop i = ds[i] :: ds.drop (i + 1) := List.drop_eq_getElem_cons hl
    rw [hd] at w3
    unfold lcL at w3
    rw [if_pos gs] at w3
    obtain ⟨q1, q2⟩ := J1.go ⟨X.K, P :: ξ⟩ ρ2 H2 st2 x3 mre h3 (gstB_ok gs) i _ (List.getElem?_eq_getElem hl)
    refine .inr ⟨q1, fun H' => ∃ ρ' st' acc xs, Xt ρ1 H1 ρ' H' ∧ Hr ⟨X.K, P :: ξ⟩ ρ' H' st' ∧ H' P = some (.lst xs) ∧ xs.length ≤ i + 1 ∧ i + 1 ≤ ds.length ∧ Rps ⟨X.K, P :: ξ⟩ ρ' H' xs acc ∧ Er ⟨X.K, P :: ξ⟩ ρ' H' (wipe σ vs) (wipeE env vs) ∧
      (lcL vs g mt me o ds env (ds.drop (i + 1)) st' acc).wp fun acc s2 => (newL m acc s2).wp fun d st' => ∀ ρ' H' v, Xt ρ H ρ' H' → Hr (X.kx ξ) ρ' H' st' → Rp (X.kx ξ) ρ' H' v d → Q v H', fun H' q => ⟨ds.length - (i + 1), by omega, rfl, q⟩, fun x H3 y => ?_⟩
    obtain ⟨sm, rx⟩ := q2 x H3 y
    intro s H0 C cl fp
    refine hg s H0 C cl fp (P :: ξ) ρ2 H3 (wipe σ vs) (wipeE env vs) st2 x _ _ (e3.xt (.same sm)) (h3.same sm) rx (R.wp_mono (R.wp_bd.mp w3) fun env4 s4 w4 ρ4 H4 σ4 x4 h4 e4 k4 => ⟨?_, ?_⟩)
    · rw [wipe_same hsl k4.1 k4.2]
      exact wipe_idem σ vs
    · intro s H0 C cl fp
      refine ht s H0 C cl fp (P :: ξ) ρ4 H4 σ4 env4 s4 _ e4 h4 (R.wp_mono (R.wp_bd.mp w4) fun b s5 w5 ρ5 H5 x5 h5 => ?_)
      have keepP : ∀ {ρ' : List Addr} {H' : Hp}, Xt ρ2 H3 ρ' H' → H' P = some (.lst xs) := fun x' => x'.keep P _ (h3.exd P List.mem_cons_self) (sm _ _ hp3)
      have e5 : Er ⟨X.K, P :: ξ⟩ ρ5 H5 (wipe σ vs) (wipeE env vs) := e3.xt ((Xt.same sm).trans (x4.trans x5))
      cases b with
      | false => exact iteF ⟨ρ5, s5, acc, xs, x3.trans ((Xt.same sm).trans (x4.trans x5)), h5, keepP (x4.trans x5), by omega, by omega, Rps.xt ((Xt.same sm).trans (x4.trans x5)) _ _ r3, e5, w5⟩
      | true =>
        refine iteT fun s H0 C cl fp => he s H0 C cl fp (P :: ξ) ρ5 H5 σ4 env4 s5 _ (e4.xt x5) h5 (R.wp_mono (R.wp_bd.mp w5) fun y s6 w6 ρ6 H6 u x6 h6 r6 => ?_)
        have xx : Xt ρ2 H2 ρ6 H6 := (Xt.same sm).trans (x4.trans (x5.trans x6))
        have hP6 := keepP (x4.trans (x5.trans x6))
        have ag : Ag ⟨X.K, P :: ξ⟩ H6 (upd H6 P (.lst (xs ++ [u]))) := fun a ha => upd_ne fun z => ha (by rw [z]; exact List.mem_cons_self)
        have lz : xs.length + 1 ≤ sizeLine := by omega
        refine ⟨xs, hP6, lz, ρ6, s6, acc ++ [y], xs ++ [u], ⟨?_, ?_⟩, Hr.ag ag (fun a ha => ?_) h6, upd_same, by simp; omega, by omega, Rps.ag ag _ _ ((Rps.xt xx _ _ r3).app (.cons r6 .nil)), Er.ag ag (e3.xt xx), w6⟩
        · exact (x3.trans xx).pre
        · intro a oo na ha
          rw [upd_ne fun z => by rw [z, hP] at ha; cases ha]
          exact (x3.trans xx).keep a oo na ha
        · by_cases z : a = P
          · exact ⟨_, by rw [z]; exact upd_same⟩
          · rw [upd_ne z]
            exact h6.exl a ha
  · have hd : ds.drop i = [] := List.drop_eq_nil_of_le (by omega)
    rw [hd] at w3
    unfold lcL at w3
    rw [if_pos gs] at w3
    refine .inl ⟨J1.stop ⟨X.K, P :: ξ⟩ ρ2 H2 st2 x3 mre h3 (gstB_ok gs) i (show i = ds.length by omega), ?_⟩
    have w4 : (newL m acc st2).wp fun d st' => ∀ ρ' H' v, Xt ρ H ρ' H' → Hr (X.kx ξ) ρ' H' st' → Rp (X.kx ξ) ρ' H' v d → Q v H' := w3
    exact made hP nP.1 nP.2 x3 h3 hp3 (by omega) r3 (R.wp_mono w4 fun d s' k ρ' H' v' x' => k ρ' H' v' (x1.trans x'))
end
end Rf
set_option maxHeartbeats 4000000
namespace Rf
open PySem PySem.Spec L2
open PyProof.Rows hiding St
/-! ## blocks -/
def Ci.blk (c : Ci) (scope : Scope) (own : List (Str × Nat)) : Ci := ⟨relS scope c.sc, c.N, own.map (·.1)⟩
/-- a block's own names are stored in its own places -/
def ownB (scope : Scope) (own : List (Str × Nat)) : Bool := own.all fun p => match scope.names.lookup p.1 with
  | some .local => true
  | some .cell => true
  | _ => false
section
variable {X : Cx} {c : Ci} {G : Gi} {F : Fn}
theorem Gd.blk (g : Gd X c) {scope : Scope} {own : List (Str × Nat)} (ho : ownB scope own = true) (s : Shared) (H : Hp) (C : Addr) (cl : List (Str × Addr)) (fp : List Addr) : Gd (X.blk s H scope (compEnvC scope cl C X.env) fp) (c.blk scope own) where
  hN := g.hN
  hsc := by
    show relS scope X.env.scope = relS scope c.sc
    rw [g.hsc]
  calm := g.calm
  nd := g.nd
  hst := fun x hx => by
    obtain ⟨p, hp, e⟩ := List.mem_map.mp hx
    have h := List.all_eq_true.mp ho p hp
    rw [e] at h
    cases q : scope.names.lookup x with
    | none => rw [q] at h; cases h
    | some k =>
      rw [q] at h
      cases k with
      | «local» =>
        refine .inr ?_
        show (relS scope X.env.scope).names.lookup x = some .local
        exact lookup_relS_keep (by decide) q
      | cell =>
        refine .inl ?_
        show (scope.names.lookup x == some .cell) = true
        rw [q]
        rfl
      | _ => cases h
  xe := rfl
theorem Wd.blk (W : Wd X G F) (scope : Scope) (s : Shared) (H : Hp) (C : Addr) (cl : List (Str × Addr)) (fp : List Addr) : Wd (X.blk s H scope (compEnvC scope cl C X.env) fp) G F :=
  ⟨W.gq, W.room, fun e he => ⟨(W.fs e he).ex⟩, W.bl, W.cs, W.gcd, W.tb⟩
theorem se_lc {elt tg iter : Expr} {ifs : List Expr} {scope : Scope} {own : List (Str × Nat)} {pos : Pos} {sl : List Nat} {g : MG} {mt : MT} {me : ME} {mi : MI} (m : Bool) (gd : Gd X c) (hn : noSet iter = true) (ok : blkC c.N c.sc scope own = true) (hi : SI X tg iter mi) (hsl : ∀ i ∈ sl, i ∈ own.map (·.2))
    (hg : ∀ (s : Shared) (H : Hp) (C : Addr) (cl : List (Str × Addr)) (fp : List Addr), SG (X.blk s H scope (compEnvC scope cl C X.env) fp) tg sl g)
    (ht : ∀ (s : Shared) (H : Hp) (C : Addr) (cl : List (Str × Addr)) (fp : List Addr), STs (X.blk s H scope (compEnvC scope cl C X.env) fp) ifs mt)
    (he : ∀ (s : Shared) (H : Hp) (C : Addr) (cl : List (Str × Addr)) (fp : List Addr), SE (X.blk s H scope (compEnvC scope cl C X.env) fp) elt me) :
    SE X (.ListComp elt [⟨tg, iter, ifs, 0⟩] scope pos) (mLc m (own.map (·.2)) g mt me mi) := fun ξ ρ H σ env st Q e0 hr w => by
  have ok' : BlkOk X.N X.env.scope scope own := by rw [gd.hN, gd.hsc]; exact blkOk_by ok
  exact (pe_lc gd.calm (by rw [gd.hN]; exact gd.nd) pi_ri ok' (g := allG X scope tg) (tt := allT X scope ifs) (te := allE X scope elt)
    (fun s H C cl fp => ⟨fun pins s' σ H' v u Z I r h => h s H C cl fp pins s' u I r⟩) (fun s H C cl fp => ⟨fun pins s' σ H' Z I h => h s H C cl fp pins s' I⟩) (fun s H C cl fp => ⟨fun pins s' σ H' Z I h => h s H C cl fp pins s' I⟩) (folded_no hn X.env)).re
    (lc_read gd hi hsl hg ht he e0 hr w)
theorem sx_setLc {i : Nat} {y : Str} {py : Pos} {elt tg iter : Expr} {ifs : List Expr} {scope : Scope} {own : List (Str × Nat)} {pos spos : Pos} {sl : List Nat} {g : MG} {mt : MT} {me : ME} {mi : MI} (m : Bool) (gd : Gd X c) (hk : c.sc.kind = .function) (hy : c.N[i]? = some y) (hyl : c.sc.names.lookup y = some .local)
    (hln : (py.line == pos.line) = true) (ha : (scope.names.any fun (n, k) => n == y && (k == .local || k == .cell)) = false) (hn : noSet iter = true) (ok : blkC c.N c.sc scope own = true) (hi : SI X tg iter mi) (hsl : ∀ i ∈ sl, i ∈ own.map (·.2))
    (hg : ∀ (s : Shared) (H : Hp) (C : Addr) (cl : List (Str × Addr)) (fp : List Addr), SG (X.blk s H scope (compEnvC scope cl C X.env) fp) tg sl g)
    (ht : ∀ (s : Shared) (H : Hp) (C : Addr) (cl : List (Str × Addr)) (fp : List Addr), STs (X.blk s H scope (compEnvC scope cl C X.env) fp) ifs mt)
    (he : ∀ (s : Shared) (H : Hp) (C : Addr) (cl : List (Str × Addr)) (fp : List Addr), SE (X.blk s H scope (compEnvC scope cl C X.env) fp) elt me) :
    SX X (.Assign [.Name y py] (.ListComp elt [⟨tg, iter, ifs, 0⟩] scope pos) spos) (mAsg (gNm i) (mLc m (own.map (·.2)) g mt me mi)) := fun ξ ρ H σ env st E e0 hr w => by
  have ok' : BlkOk X.N X.env.scope scope own := by rw [gd.hN, gd.hsc]; exact blkOk_by ok
  refine (ps_setLc (i := i) gd.calm (by rw [gd.hN]; exact gd.nd) (by rw [gd.hN]; exact hy) (by rw [gd.hsc]; exact hyl) (sw_true (by rw [gd.hsc]; exact hk) (by rw [gd.hsc]; exact hyl) hln ha) pi_ri ok' (g := allG X scope tg) (tt := allT X scope ifs) (te := allE X scope elt)
    (fun s H C cl fp => ⟨fun pins s' σ H' v u Z I r h => h s H C cl fp pins s' u I r⟩) (fun s H C cl fp => ⟨fun pins s' σ H' Z I h => h s H C cl fp pins s' I⟩) (fun s H C cl fp => ⟨fun pins s' σ H' Z I h => h s H C cl fp pins s' I⟩) (folded_no hn X.env)).rx ?_
  refine lc_read gd hi hsl hg ht he e0 hr (R.wp_mono (R.wp_bd.mp w) fun d s1 w1 ρ1 H1 v x1 h1 r1 => ?_)
  exact w1 ρ1 H1 _ x1 h1 ((e0.xt x1).set r1)
end
/-! ## comparisons, tests by rules -/
section
variable {X : Cx} {c : Ci} {G : Gi} {F : Fn}
/-- what an operation comes to is a truth -/
def ToB (f : Op2) : Prop := ∀ x y s d s', f x y s = .ok d s' → ∃ b, d = .bl b
theorem st_op2 {a b : Expr} {ma mb : ME} {f : Op2} {r : R2} {e : Expr} (hp : PT X e (tTest (tOp r (RE X a) (RE X b)))) (ha : SE X a ma) (hb : SE X b mb) (hd : Do2 X f r) (ht : ToB f) : ST X e (mTest (mOp2 f ma mb)) := by
  refine st_of hp (fun ξ ρ H σ env st Q e0 hr w => two ha hb e0 hr w fun x y s ρ' H' v u x1 h1 r1 r2 w1 => hd x y s ξ ρ' H' v u Q h1 r1 r2 (R.wp_mono w1 fun d s' k ρ2 H2 v' x2 => k ρ2 H2 v' (x1.trans x2))) fun env st x s e => ?_
  unfold mOp2 at e
  cases e1 : ma env st with
  | ok x1 s1 =>
    rw [e1] at e
    have e' : (mb env s1).bd (fun y s' => f x1 y s') = .ok x s := e
    cases e2 : mb env s1 with
    | ok y1 s2 => rw [e2] at e'; exact ht x1 y1 s2 x s e'
    | ex => rw [e2] at e'; cases e'
    | bad => rw [e2] at e'; cases e'
  | ex => rw [e1] at e; cases e
  | bad => rw [e1] at e; cases e
abbrev opCmp (g : Int → Int → Bool) : Op2 := opI2 yes2 fun i j => .bl (g i j)
theorem toB_cmp (g : Int → Int → Bool) : ToB (opCmp g) := by
  intro x y s d s' h
  unfold opCmp opI2 at h
  split at h
  · simp [yes2] at h
    exact ⟨_, h.1.symm⟩
  · cases h
theorem toB_eq (neg : Bool) : ToB (opEq neg) := by
  intro x y s d s' h
  unfold opEq at h
  split at h
  · cases h; exact ⟨_, rfl⟩
  · cases h; exact ⟨_, rfl⟩
  · unfold opEqP at h
    split at h
    · split at h
      · cases h; exact ⟨_, rfl⟩
      · cases h
    · cases h
theorem toB_in (neg : Bool) : ToB (opIn neg) := by
  intro x y s d s' h
  unfold opIn at h
  split at h
  · cases h; exact ⟨_, rfl⟩
  · split at h
    · cases h; exact ⟨_, rfl⟩
    · cases h
  · split at h
    · split at h
      · cases h; exact ⟨_, rfl⟩
      · cases h
    · cases h
theorem do_cmp (g : Int → Int → Bool) : Do2 X (opCmp g) (rI (fun _ _ => True) fun i j => .bl (g i j)) := do_I2 (fun _ _ _ => trivial) fun ξ ρ H i j => .bl _
/-- is, of two truths -/
def opIsB (neg : Bool) : Op2 := fun x y s => match x, y with
  | .bl a, .bl b => .ok (.bl (if neg then !decide (a = b) else decide (a = b))) s
  | _, _ => .bad
theorem toB_isB (neg : Bool) : ToB (opIsB neg) := by
  intro x y s d s' h
  unfold opIsB at h
  split at h
  · cases h; exact ⟨_, rfl⟩
  · cases h
theorem do_isB (neg : Bool) : Do2 X (opIsB neg) (fun x y H Q => ∃ a b, x = .bl a ∧ y = .bl b ∧ Q (.bl (if neg then !decide (a = b) else decide (a = b))) H) := by
  intro x y s ξ ρ H v u Q hr r1 r2 w
  unfold opIsB at w
  split at w
  · cases r1
    cases r2
    exact ⟨_, _, rfl, rfl, w ρ H _ (.refl _ _) hr (.bl _)⟩
  · exact w.elim
/-- the rule of a comparison, and its meaning -/
inductive CmpR (X : Cx) : CmpOp → Op2 → Prop
  | mk {op : CmpOp} {f : Op2} {r : R2} (ho : OpR X (compareOp op) r) (hd : Do2 X f r) (hb : ToB f) : CmpR X op f
def cmpM (op : CmpOp) : Option Op2 := match op with
  | .Eq => some (opEq false)
  | .NotEq => some (opEq true)
  | .Lt => some (opCmp fun i j => decide (i < j))
  | .LtE => some (opCmp fun i j => decide (i ≤ j))
  | .Gt => some (opCmp fun i j => decide (j < i))
  | .GtE => some (opCmp fun i j => decide (j ≤ i))
  | .In => some (opIn false)
  | .NotIn => some (opIn true)
  | .Is => some (opIsB false)
  | .IsNot => some (opIsB true)
theorem cmpM_ok (W : Wd X G F) {op : CmpOp} {f : Op2} (h : cmpM op = some f) : CmpR X op f := by
  have hu : X.A.units + 64 < cLine := W.room.units
  cases op with
  | Eq => cases h; exact .mk (op_eqA hu) (do_eq _) (toB_eq _)
  | NotEq => cases h; exact .mk (op_neA hu) (do_eq _) (toB_eq _)
  | Lt => cases h; exact .mk (op_of0 op_lt) (do_cmp _) (toB_cmp _)
  | LtE => cases h; exact .mk (op_of0 op_le) (do_cmp _) (toB_cmp _)
  | Gt => cases h; exact .mk (op_of0 op_gt) (do_cmp _) (toB_cmp _)
  | GtE => cases h; exact .mk (op_of0 op_ge) (do_cmp _) (toB_cmp _)
  | In => cases h; exact .mk op_inA (do_in _) (toB_in _)
  | NotIn => cases h; exact .mk op_notInA (do_in _) (toB_in _)
  | Is => cases h; exact .mk op_is_bl (do_isB _) (toB_isB _)
  | IsNot => cases h; exact .mk op_isnot_bl (do_isB _) (toB_isB _)
theorem se_cmp {op : CmpOp} {f : Op2} {a b : Expr} {ma mb : ME} {pos : Pos} (h : CmpR X op f) (hm : behindInMarks op b = false) (ha : SE X a ma) (hb : SE X b mb) : SE X (.Compare a [op] [b] pos) (mOp2 f ma mb) := by
  cases h with
  | mk ho hd ht => exact se_op2 (pe_cmpR ho pe_re pe_re hm) ha hb hd
theorem st_cmp {op : CmpOp} {f : Op2} {a b : Expr} {ma mb : ME} {pos : Pos} (h : CmpR X op f) (hm : behindInMarks op b = false) (ha : SE X a ma) (hb : SE X b mb) : ST X (.Compare a [op] [b] pos) (mTest (mOp2 f ma mb)) := by
  cases h with
  | mk ho hd ht => exact st_op2 (pt_cmpR ho pe_re pe_re hm) ha hb hd ht
/-! ### is None -/
theorem se_isN {a : Expr} {ma : ME} {j : Nat} {pos pos' : Pos} (ha : SE X a ma) : SE X (.Compare a [.Is] [.Constant .none j pos'] pos) (mOp1 (opIsN false) ma) := se_op1 (pe_cmp (pc_isN pe_re) (by rfl)) ha (do_isN false)
theorem se_notN {a : Expr} {ma : ME} {j : Nat} {pos pos' : Pos} (ha : SE X a ma) : SE X (.Compare a [.IsNot] [.Constant .none j pos'] pos) (mOp1 (opIsN true) ma) := se_op1 (pe_cmp (pc_notN pe_re) (by rfl)) ha (do_isN true)
theorem st_isN' {neg : Bool} {a e : Expr} {ma : ME} {t : TE} (hp : PT X e (tB t)) (ht : t = tUn (fun x H Q => Q (.bl (if neg then !decide (x = .non) else decide (x = .non))) H) (RE X a)) (ha : SE X a ma) : ST X e (mTest (mOp1 (opIsN neg) ma)) := by
  subst ht
  refine st_of (t := tUn (fun x H Q => Q (.bl (if neg then !decide (x = .non) else decide (x = .non))) H) (RE X a)) hp (fun ξ ρ H σ env st Q e0 hr w => ?_) fun env st x s e => ?_
  · refine ha ξ ρ H σ env st _ e0 hr (R.wp_mono (R.wp_bd.mp w) fun x s w1 ρ1 H1 v x1 h1 r1 => ?_)
    exact do_isN neg x s ξ ρ1 H1 v Q h1 r1 (R.wp_mono w1 fun d s' k ρ2 H2 v' x2 => k ρ2 H2 v' (x1.trans x2))
  · unfold mOp1 at e
    cases e1 : ma env st with
    | ok x1 s1 =>
      rw [e1] at e
      have e' : R.ok (D.bl (if neg then !isN x1 else isN x1)) s1 = .ok x s := e
      cases e'
      exact ⟨_, rfl⟩
    | ex => rw [e1] at e; cases e
    | bad => rw [e1] at e; cases e
theorem st_isN {a : Expr} {ma : ME} {j : Nat} {pos pos' : Pos} (ha : SE X a ma) : ST X (.Compare a [.Is] [.Constant .none j pos'] pos) (mTest (mOp1 (opIsN false) ma)) := st_isN' (neg := false) (pt_cmp (pc_isN pe_re) (by rfl)) rfl ha
theorem st_notN {a : Expr} {ma : ME} {j : Nat} {pos pos' : Pos} (ha : SE X a ma) : ST X (.Compare a [.IsNot] [.Constant .none j pos'] pos) (mTest (mOp1 (opIsN true) ma)) := st_isN' (neg := true) (pt_cmp (pc_notN pe_re) (by rfl)) rfl ha
/-! ### a < b < c, of ints -/
def cmpI (op : CmpOp) : Option (Int → Int → Bool) := match op with
  | .Lt => some fun i j => decide (i < j)
  | .LtE => some fun i j => decide (i ≤ j)
  | .Gt => some fun i j => decide (j < i)
  | .GtE => some fun i j => decide (j ≤ i)
  | _ => none
theorem cmpI_ok {op : CmpOp} {g : Int → Int → Bool} (h : cmpI op = some g) : OpR X (compareOp op) (rI0 fun i j => .bl (g i j)) ∧ op ≠ .In ∧ op ≠ .NotIn := by
  cases op with
  | Lt => cases h; exact ⟨op_lt, by decide, by decide⟩
  | LtE => cases h; exact ⟨op_le, by decide, by decide⟩
  | Gt => cases h; exact ⟨op_gt, by decide, by decide⟩
  | GtE => cases h; exact ⟨op_ge, by decide, by decide⟩
  | _ => cases h
def mChn (g g' : Int → Int → Bool) (a b c : ME) : ME := fun env st => (a env st).bd fun x s => (b env s).bd fun y s1 => match x, y with
  | .int i, .int j => if g i j then (c env s1).bd fun z s2 => match z with
      | .int k => .ok (.bl (g' j k)) s2
      | _ => .bad
    else .ok (.bl false) s1
  | _, _ => .bad
theorem chn_read {a b e : Expr} {g g' : Int → Int → Bool} {ma mb mc : ME} (ha : SE X a ma) (hb : SE X b mb) (hc : SE X e mc) (ξ ρ : List Addr) (H : Hp) (σ : L2.St) (env : Ev) (st : Sto) (Q : VK) (e0 : Er (X.kx ξ) ρ H σ env) (hr : Hr (X.kx ξ) ρ H st)
    (w : (mChn g g' ma mb mc env st).wp fun d st' => ∀ ρ' H' v, Xt ρ H ρ' H' → Hr (X.kx ξ) ρ' H' st' → Rp (X.kx ξ) ρ' H' v d → Q v H') : tChain (rI0 fun i j => .bl (g i j)) (rI0 fun i j => .bl (g' i j)) (RE X a) (RE X b) (RE X e) σ H Q := by
  refine ha ξ ρ H σ env st _ e0 hr (R.wp_mono (R.wp_bd.mp w) fun x s w1 ρ1 H1 v x1 h1 r1 => ?_)
  refine hb ξ ρ1 H1 σ env s _ (e0.xt x1) h1 (R.wp_mono (R.wp_bd.mp w1) fun y s1 w2 ρ2 H2 u x2 h2 r2 => ?_)
  cases r1 with
  | int i =>
    cases r2 with
    | int j =>
      refine ⟨i, j, rfl, rfl, g i j, rfl, ?_⟩
      have w3 : (if g i j = true then (mc env s1).bd (fun z s2 => match z with | .int k => R.ok (D.bl (g' j k)) s2 | _ => .bad) else .ok (.bl false) s1).wp _ := w2
      by_cases z : g i j = true
      · rw [if_pos z] at w3 ⊢
        refine hc ξ ρ2 H2 σ env s1 _ (e0.xt (x1.trans x2)) h2 (R.wp_mono (R.wp_bd.mp w3) fun z s2 w4 ρ3 H3 t x3 h3 r3 => ?_)
        cases r3 with
        | int k => exact ⟨j, k, rfl, rfl, w4 ρ3 H3 _ ((x1.trans x2).trans x3) h3 (.bl _)⟩
        | _ => exact w4.elim
      · rw [if_neg z] at w3 ⊢
        exact w3 ρ2 H2 _ (x1.trans x2) h2 (.bl _)
    | _ => exact w2.elim
  | _ => cases r2 <;> exact w2.elim
theorem chn_bool {g g' : Int → Int → Bool} {ma mb mc : ME} : ∀ env st x s, mChn g g' ma mb mc env st = .ok x s → ∃ b, x = .bl b := by
  intro env st x s e
  unfold mChn at e
  cases e1 : ma env st with
  | ok x1 s1 =>
    rw [e1] at e
    simp only [R.bd_ok] at e
    cases e2 : mb env s1 with
    | ok y1 s2 =>
      rw [e2] at e
      simp only [R.bd_ok] at e
      split at e
      · split at e
        · cases e3 : mc env s2 with
          | ok z1 s3 =>
            rw [e3] at e
            simp only [R.bd_ok] at e
            split at e
            · cases e; exact ⟨_, rfl⟩
            · cases e
          | ex => rw [e3] at e; cases e
          | bad => rw [e3] at e; cases e
        · cases e; exact ⟨_, rfl⟩
      · cases e
    | ex => rw [e2] at e; cases e
    | bad => rw [e2] at e; cases e
  | ex => rw [e1] at e; cases e
  | bad => rw [e1] at e; cases e
theorem last_two {op op' : CmpOp} {b e : Expr} (h : op' ≠ .In) (h2 : op' ≠ .NotIn) : lastMarks [op, op'] [b, e] = false := nobehind e h h2
theorem se_chn {op op' : CmpOp} {g g' : Int → Int → Bool} {a b e : Expr} {ma mb mc : ME} {pos : Pos} (h : cmpI op = some g) (h' : cmpI op' = some g') (ha : SE X a ma) (hb : SE X b mb) (hc : SE X e mc) : SE X (.Compare a [op, op'] [b, e] pos) (mChn g g' ma mb mc) := fun ξ ρ H σ env st Q e0 hr w =>
  (pe_chain (cmpI_ok h).1 (cmpI_ok h').1 pe_re pe_re pe_re (last_two (cmpI_ok (X := X) h').2.1 (cmpI_ok (X := X) h').2.2)).re (chn_read ha hb hc ξ ρ H σ env st Q e0 hr w)
theorem st_chn {op op' : CmpOp} {g g' : Int → Int → Bool} {a b e : Expr} {ma mb mc : ME} {pos : Pos} (h : cmpI op = some g) (h' : cmpI op' = some g') (ha : SE X a ma) (hb : SE X b mb) (hc : SE X e mc) : ST X (.Compare a [op, op'] [b, e] pos) (mTest (mChn g g' ma mb mc)) :=
  st_of (pt_chain (cmpI_ok h).1 (cmpI_ok h').1 pe_re pe_re pe_re (last_two (cmpI_ok (X := X) h').2.1 (cmpI_ok (X := X) h').2.2)) (chn_read ha hb hc) chn_bool
end
/-! ## a list's methods -/
/-- a method of a list with one argument, with none -/
def mMt (f : Op2) (o e : ME) : ME := fun env st => (o env st).bd fun x s => if (lstD x s).isSome then (e env s).bd fun y s2 => f x y s2 else .bad
def mMt0 (f : Op1) (o : ME) : ME := fun env st => (o env st).bd fun x s => if (lstD x s).isSome then f x s else .bad
def opApp : Op2 := fun x y s => match x with
  | .ref n => match s[n]? with
    | some (.lst ds) => if ds.length < sizeLine then .ok .non (s.set n (.lst (ds ++ [y]))) else .bad
    | _ => .bad
  | _ => .bad
def opPop : Op1 := fun x s => match x with
  | .ref n => match s[n]? with
    | some (.lst ds) => match ds[ds.length - 1]? with
      | some d => .ok d (s.set n (.lst ds.dropLast))
      | none => .bad
    | _ => .bad
  | _ => .bad
section
variable {X : Cx} {c : Ci}
/-- a list of the store, at hand -/
theorem stL {K : Kx} {ρ : List Addr} {H : Hp} {v : V} {n : Nat} {s : Sto} {ds : List D} (hr : Hr K ρ H s) (r : Rp K ρ H v (.ref n)) (h : s[n]? = some (.lst ds)) : ∃ a xs, v = .ref a ∧ ρ[n]? = some a ∧ H a = some (.lst xs) ∧ xs.length ≤ sizeLine ∧ Rps K ρ H xs ds := by
  cases r with
  | ref hn =>
    obtain ⟨xs, h1, h2, h3⟩ := hr.ob n _ _ hn h
    exact ⟨_, xs, rfl, hn, h1, h2, h3⟩
/-- a store's list is another one from now on -/
theorem stP {K : Kx} {ρ : List Addr} {H : Hp} {n : Nat} {s : Sto} {a : Addr} {ds : List D} {xs : List V} (hr : Hr K ρ H s) (hn : ρ[n]? = some a) (hz : xs.length ≤ sizeLine) (r : Rps K ρ H xs ds) : Hr K ρ (upd H a (.lst xs)) (s.set n (.lst ds)) ∧ Xt ρ H ρ (upd H a (.lst xs)) :=
  hr.put hn fun ρ' H' x e => ⟨xs, e, hz, Rps.xt x _ _ r⟩
theorem do_app : Do2 X opApp (fun x y H Q => rAppend x [y] H Q) := by
  intro x y s ξ ρ H v u Q hr r1 r2 w
  cases x with
  | ref n =>
    have w' : (match s[n]? with | some (.lst ds) => (if ds.length < sizeLine then R.ok D.non (s.set n (.lst (ds ++ [y]))) else .bad) | _ => .bad).wp _ := w
    cases e : s[n]? with
    | none => rw [e] at w'; exact w'.elim
    | some o =>
      rw [e] at w'
      cases o with
      | lst ds =>
        have w2 : (if ds.length < sizeLine then R.ok D.non (s.set n (.lst (ds ++ [y]))) else .bad).wp _ := w'
        by_cases hz : ds.length < sizeLine
        · rw [if_pos hz] at w2
          obtain ⟨a, xs, rfl, hn, h1, h2, h3⟩ := stL hr r1 e
          rw [← h3.length] at hz
          obtain ⟨p1, p2⟩ := stP (xs := xs ++ [u]) hr hn (by simp; omega) (h3.app (.cons r2 .nil))
          exact ⟨a, xs, u, rfl, rfl, h1, hz, w2 ρ _ _ p2 p1 .non⟩
        · rw [if_neg hz] at w2; exact w2.elim
      | dct => exact w'.elim
      | ins => exact w'.elim
  | _ => exact w.elim
theorem do_pop : Do1 X opPop (fun x H Q => rPop x [] H Q) := by
  intro x s ξ ρ H v Q hr r1 w
  cases x with
  | ref n =>
    have w' : (match s[n]? with | some (.lst ds) => (match ds[ds.length - 1]? with | some d => R.ok d (s.set n (.lst ds.dropLast)) | none => .bad) | _ => .bad).wp _ := w
    cases e : s[n]? with
    | none => rw [e] at w'; exact w'.elim
    | some o =>
      rw [e] at w'
      cases o with
      | lst ds =>
        have w2 : (match ds[ds.length - 1]? with | some d => R.ok d (s.set n (.lst ds.dropLast)) | none => .bad).wp _ := w'
        cases e2 : ds[ds.length - 1]? with
        | none => rw [e2] at w2; exact w2.elim
        | some d =>
          rw [e2] at w2
          obtain ⟨a, xs, rfl, hn, h1, h2, h3⟩ := stL hr r1 e
          obtain ⟨z, hz, rz⟩ := h3.get e2
          obtain ⟨p1, p2⟩ := stP (xs := xs.dropLast) hr hn (by simp; omega) h3.dropLast
          exact ⟨a, xs, z, rfl, rfl, h1, by rw [h3.length]; exact hz, w2 ρ _ _ p2 p1 (rz.xt p2)⟩
      | dct => exact w'.elim
      | ins => exact w'.elim
  | _ => exact w.elim
theorem lst_ty {K : Kx} {ρ : List Addr} {H : Hp} {v : V} {x : D} {s : Sto} (hr : Hr K ρ H s) (r : Rp K ρ H v x) (h : (lstD x s).isSome = true) : tyV K.K "list" v H := by
  cases e : lstD x s with
  | none => rw [e] at h; cases h
  | some ds =>
    obtain ⟨a, xs, rfl, h1, _⟩ := lstD_ok hr r e
    exact .inl ⟨rfl, xs, SqL.of h1⟩
theorem se_mt {o e : Expr} {mo me : ME} {apos pos : Pos} {nm : Str} {id : String} {f : Op2} {r : V → List V → Hp → VK → Prop} (slot : Slot "list" nm id) (hty : typeOf (.builtin id) = pure (.type "method_descriptor")) (hm : MtR X id r) (hd : Do2 X f (fun x y H Q => r x [y] H Q))
    (hb : ∀ env, attributeBase o nm env (eval o env) = eval o env) (hl : (apos.endLine == pos.line) = true) (hp : plainArg e = true) (ho : SE X o mo) (he : SE X e me) : SE X (.Call (.Attribute o nm apos) [e] [] pos) (mMt f mo me) := fun ξ ρ H σ env st Q e0 hr w => by
  refine (pe_bm PySem.F.plainAttrs_list slot hty hm pe_re (pa_cons pe_re pa_nil (star_cons hp)) (hb X.env) (by rw [star_cons hp]; rfl) hl (star_cons hp)).re ?_
  refine ho ξ ρ H σ env st _ e0 hr (R.wp_mono (R.wp_bd.mp w) fun x s w1 ρ1 H1 v x1 h1 r1 => ?_)
  by_cases z : (lstD x s).isSome = true
  · rw [if_pos z] at w1
    refine ⟨lst_ty h1 r1 z, he ξ ρ1 H1 σ env s _ (e0.xt x1) h1 (R.wp_mono (R.wp_bd.mp w1) fun y s2 w2 ρ2 H2 u x2 h2 r2 => ?_)⟩
    exact hd x y s2 ξ ρ2 H2 v u Q h2 (r1.xt x2) r2 (R.wp_mono w2 fun d s' k ρ' H' v' x' => k ρ' H' v' ((x1.trans x2).trans x'))
  · rw [if_neg z] at w1; exact w1.elim
theorem se_mt0 {o : Expr} {mo : ME} {apos pos : Pos} {nm : Str} {id : String} {f : Op1} {r : V → List V → Hp → VK → Prop} (slot : Slot "list" nm id) (hty : typeOf (.builtin id) = pure (.type "method_descriptor")) (hm : MtR X id r) (hd : Do1 X f (fun x H Q => r x [] H Q))
    (hb : ∀ env, attributeBase o nm env (eval o env) = eval o env) (hl : (apos.endLine == pos.line) = true) (ho : SE X o mo) : SE X (.Call (.Attribute o nm apos) [] [] pos) (mMt0 f mo) := fun ξ ρ H σ env st Q e0 hr w => by
  refine (pe_bm0 PySem.F.plainAttrs_list slot hty hm pe_re (hb X.env) hl).re ?_
  refine ho ξ ρ H σ env st _ e0 hr (R.wp_mono (R.wp_bd.mp w) fun x s w1 ρ1 H1 v x1 h1 r1 => ?_)
  by_cases z : (lstD x s).isSome = true
  · rw [if_pos z] at w1
    exact ⟨lst_ty h1 r1 z, hd x s ξ ρ1 H1 v Q h1 r1 (R.wp_mono w1 fun d s' k ρ' H' v' x' => k ρ' H' v' (x1.trans x'))⟩
  · rw [if_neg z] at w1; exact w1.elim
/-- no call of super() -/
def noSuper : Expr → Bool
  | .Call (.Name _ _) [] [] _ => false
  | _ => true
theorem base_no {o : Expr} {nm : Str} (h : noSuper o = true) : ∀ env, attributeBase o nm env (eval o env) = eval o env := by
  intro env
  unfold attributeBase
  split
  · cases h
  · rfl
end
end Rf
set_option maxHeartbeats 4000000
namespace Rf
open PySem PySem.Spec L2
open PyProof.Rows hiding St
/-! ## tables: dicts of the module whose keys are texts -/
def opTget (kvs : List (Str × D)) : Op1 := fun x s => match x with
  | .str z => match kvs.lookup z with
    | some d => .ok d s
    | none => .bad
  | _ => .bad
def opTin (neg : Bool) (kvs : List (Str × D)) : Op1 := fun x s => match x with
  | .str z => .ok (.bl (if neg then !(kvs.lookup z).isSome else (kvs.lookup z).isSome)) s
  | _ => .bad
def rInK (K : PySem.W.Frag) (w : World) (neg : Bool) : R2 := fun x y H Q => ∃ z p es n r, x = .str z ∧ y = .ref p ∧ K.lookup p = some ⟨.type "dict", none, .dict es n, #[]⟩ ∧ PySem.W.KeysLit w.params es.toList ∧ (p == sysModules) = false ∧
  PySem.W.nsIn K p z = some r ∧ Q (.bl (if neg then !r.isSome else r.isSome)) H
section
variable {X : Cx} {c : Ci} {G : Gi} {F : Fn}
theorem op_inK : OpR X (compareOp .In) (rInK X.K X.w false) := by
  intro pins s σ H x y v u Q I rx ry h
  obtain ⟨z, p, es, n, r, rfl, rfl, hl, hk, lo, e, q⟩ := h
  obtain rfl : u = Value.ref p := ry
  obtain ⟨t, rfl⟩ := (show ∃ t, v = Value.str z t from rx)
  refine wpAny_in_of (strKind_is X.prog X.w z t) lo (PySem.W.mapOf_K (prog := X.prog) (w := X.w) I.kIn hl hk) ?_
  rw [PySem.W.find_K hl e]
  exact ⟨.bl r.isSome, H, I.tok _, rfl, q⟩
theorem op_ninK : OpR X (compareOp .NotIn) (rInK X.K X.w true) := by
  intro pins s σ H x y v u Q I rx ry h
  obtain ⟨z, p, es, n, r, rfl, rfl, hl, hk, lo, e, q⟩ := h
  obtain rfl : u = Value.ref p := ry
  obtain ⟨t, rfl⟩ := (show ∃ t, v = Value.str z t from rx)
  refine wpAny_notIn_of (strKind_is X.prog X.w z t) lo (PySem.W.mapOf_K (prog := X.prog) (w := X.w) I.kIn hl hk) ?_
  rw [PySem.W.find_K hl e]
  exact ⟨.bl (!r.isSome), H, I.tok _, rfl, q⟩
theorem TbK.any {K : PySem.W.Frag} {w : World} {a : Addr} {kvs : List (Str × D)} (T : TbK K w a kvs) (x : Str) : ∃ r, PySem.W.nsIn K a x = some r ∧ r.isSome = (kvs.lookup x).isSome := by
  obtain ⟨es, n, hl, hk, lo, h⟩ := T
  cases e : kvs.lookup x with
  | none => exact ⟨none, (h x).2 e, rfl⟩
  | some d =>
    obtain ⟨u, v, q, _⟩ := (h x).1 d e
    exact ⟨some u, q, rfl⟩
theorem okN {x : Str} (h : (!(x == ("__debug__" : Str)) && !(x == ("__classdict__" : Str)) && !(x == ("__name__" : Str))) = true) : (x == ("__debug__" : Str)) = false := by
  simp only [Bool.and_eq_true, Bool.not_eq_true'] at h
  exact h.1.1
theorem pe_tb {x : Str} {p : Pos} {A : Addr} (hg : Gl X x) (hm : X.mg x = some (.ref A)) (hx : (!(x == ("__debug__" : Str)) && !(x == ("__classdict__" : Str)) && !(x == ("__name__" : Str))) = true) : PE X (.Name x p) (tC (.ref A)) := pe_glob (v := V.ref A) hg hm (show L2.RelV (.ref A) (.ref A) from rfl) (okN hx)
theorem tin_read {x : Str} {a : Expr} {p pos : Pos} {ma : ME} {kvs : List (Str × D)} {A : Addr} (neg : Bool) (T : TbK X.K X.w A kvs) (ha : SE X a ma) (ξ ρ : List Addr) (H : Hp) (σ : L2.St) (env : Ev) (st : Sto) (Q : VK) (e0 : Er (X.kx ξ) ρ H σ env) (hr : Hr (X.kx ξ) ρ H st)
    (w : (mOp1 (opTin neg kvs) ma env st).wp fun d st' => ∀ ρ' H' v, Xt ρ H ρ' H' → Hr (X.kx ξ) ρ' H' st' → Rp (X.kx ξ) ρ' H' v d → Q v H') : tOp (rInK X.K X.w neg) (RE X a) (tC (.ref A)) σ H Q := by
  refine ha ξ ρ H σ env st _ e0 hr (R.wp_mono (R.wp_bd.mp w) fun d s1 w1 ρ1 H1 v x1 h1 r1 => ?_)
  cases r1 with
  | str z =>
    obtain ⟨r, q1, q2⟩ := T.any z
    obtain ⟨es, n, hl, hk, lo, -⟩ := T
    refine ⟨z, A, es, n, r, rfl, rfl, hl, hk, lo, q1, ?_⟩
    rw [q2]
    exact w1 ρ1 H1 _ x1 h1 (.bl _)
  | _ => exact w1.elim
theorem tin_bool (neg : Bool) {kvs : List (Str × D)} {ma : ME} : ∀ env st x s, mOp1 (opTin neg kvs) ma env st = .ok x s → ∃ b, x = .bl b := by
  intro env st x s e
  unfold mOp1 at e
  cases e1 : ma env st with
  | ok x1 s1 =>
    rw [e1] at e
    have e' : opTin neg kvs x1 s1 = .ok x s := e
    unfold opTin at e'
    split at e'
    · cases e'; exact ⟨_, rfl⟩
    · cases e'
  | ex => rw [e1] at e; cases e
  | bad => rw [e1] at e; cases e
section
variable {x : Str} {a : Expr} {p pos : Pos} {ma : ME} {kvs : List (Str × D)}
theorem se_tin (W : Wd X G F) (g : Gd X c) (hx : (!(x == ("__debug__" : Str)) && !(x == ("__classdict__" : Str)) && !(x == ("__name__" : Str))) = true) (hg : Gl X x) (ht : (x, kvs) ∈ G.ts) (ha : SE X a ma) : SE X (.Compare a [.In] [.Name x p] pos) (mOp1 (opTin false kvs) ma) := fun ξ ρ H σ env st Q e0 hr w => by
  obtain ⟨A, hm, T⟩ := W.tb _ ht
  exact (pe_cmpR op_inK pe_re (pe_tb hg hm hx) (by rfl)).re (tin_read (x := x) (p := p) (pos := pos) false T ha ξ ρ H σ env st Q e0 hr w)
theorem se_tnin (W : Wd X G F) (g : Gd X c) (hx : (!(x == ("__debug__" : Str)) && !(x == ("__classdict__" : Str)) && !(x == ("__name__" : Str))) = true) (hg : Gl X x) (ht : (x, kvs) ∈ G.ts) (ha : SE X a ma) : SE X (.Compare a [.NotIn] [.Name x p] pos) (mOp1 (opTin true kvs) ma) := fun ξ ρ H σ env st Q e0 hr w => by
  obtain ⟨A, hm, T⟩ := W.tb _ ht
  exact (pe_cmpR op_ninK pe_re (pe_tb hg hm hx) (by rfl)).re (tin_read (x := x) (p := p) (pos := pos) true T ha ξ ρ H σ env st Q e0 hr w)
theorem st_tin (W : Wd X G F) (g : Gd X c) (hx : (!(x == ("__debug__" : Str)) && !(x == ("__classdict__" : Str)) && !(x == ("__name__" : Str))) = true) (hg : Gl X x) (ht : (x, kvs) ∈ G.ts) (ha : SE X a ma) : ST X (.Compare a [.In] [.Name x p] pos) (mTest (mOp1 (opTin false kvs) ma)) := by
  obtain ⟨A, hm, T⟩ := W.tb _ ht
  exact st_of (pt_cmpR op_inK pe_re (pe_tb hg hm hx) (by rfl)) (tin_read (x := x) (p := p) (pos := pos) false T ha) (tin_bool false)
theorem st_tnin (W : Wd X G F) (g : Gd X c) (hx : (!(x == ("__debug__" : Str)) && !(x == ("__classdict__" : Str)) && !(x == ("__name__" : Str))) = true) (hg : Gl X x) (ht : (x, kvs) ∈ G.ts) (ha : SE X a ma) : ST X (.Compare a [.NotIn] [.Name x p] pos) (mTest (mOp1 (opTin true kvs) ma)) := by
  obtain ⟨A, hm, T⟩ := W.tb _ ht
  exact st_of (pt_cmpR op_ninK pe_re (pe_tb hg hm hx) (by rfl)) (tin_read (x := x) (p := p) (pos := pos) true T ha) (tin_bool true)
theorem se_tget (W : Wd X G F) (g : Gd X c) (hx : (!(x == ("__debug__" : Str)) && !(x == ("__classdict__" : Str)) && !(x == ("__name__" : Str))) = true) (hg : Gl X x) (ht : (x, kvs) ∈ G.ts) (hs : PlainIx a) (ha : SE X a ma) : SE X (.Subscript (.Name x p) a pos) (mOp1 (opTget kvs) ma) := fun ξ ρ H σ env st Q e0 hr w => by
  obtain ⟨A, hm, es, n, hl, hk, lo, h⟩ := W.tb _ ht
  refine (pe_ix ix_kdict (pe_tb hg hm hx) pe_re hs).re ?_
  refine ha ξ ρ H σ env st _ e0 hr (R.wp_mono (R.wp_bd.mp w) fun d s1 w1 ρ1 H1 v x1 h1 r1 => ?_)
  cases r1 with
  | str z =>
    have w2 : (match kvs.lookup z with | some d => R.ok d s1 | none => .bad).wp _ := w1
    cases e : kvs.lookup z with
    | none => rw [e] at w2; exact w2.elim
    | some d =>
      rw [e] at w2
      obtain ⟨u, v, q1, q2, q3⟩ := (h z).1 d e
      exact ⟨A, z, v, rfl, rfl, ⟨es, n, u, hl, hk, q1, q2⟩, w2 ρ1 H1 v x1 h1 (q3 _ _ _)⟩
  | _ => exact w1.elim
end
end
end Rf
set_option maxHeartbeats 4000000
namespace Rf
open PySem PySem.Spec L2
open PyProof.Rows hiding St
/-! ## from the text to its meaning -/
structure Cfg where
  G : Gi
  mu : List (Nat × Nat)
def Cfg.m (P : Cfg) (p : Pos) : Bool := P.mu.any fun q => q.1 == p.line && q.2 == p.col
def ixOf : List Str → Str → Option Nat
  | [], _ => none
  | y :: r, x => if y = x then some 0 else match ixOf r x with
    | some i => some (i + 1)
    | none => none
theorem ixOf_ok : ∀ {N : List Str} {x : Str} {i : Nat}, ixOf N x = some i → N[i]? = some x
  | [], _, _, h => by cases h
  | y :: r, x, i, h => by
    unfold ixOf at h
    by_cases e : y = x
    · rw [if_pos e] at h
      cases h
      rw [e]
      rfl
    · rw [if_neg e] at h
      cases q : ixOf r x with
      | none => rw [q] at h; cases h
      | some j =>
        rw [q] at h
        cases h
        exact ixOf_ok (N := r) q
def visB (sc : Scope) (x : Str) : Bool := match sc.names.lookup x with
  | some .local => true
  | some .cell => true
  | some .free => true
  | _ => false
theorem visB_ok {sc : Scope} {x : Str} (h : visB sc x = true) : Vis sc x := by
  unfold visB at h
  split at h
  · exact .inl (by assumption)
  · exact .inr (.inl (by assumption))
  · exact .inr (.inr (by assumption))
  · cases h
def locB (sc : Scope) (x : Str) : Bool := match sc.names.lookup x with
  | some .local => true
  | some .cell => true
  | _ => false
theorem locB_ok {sc : Scope} {x : Str} (h : locB sc x = true) : Loc sc x := by
  unfold locB at h
  split at h
  · exact .inl (by assumption)
  · exact .inr (by assumption)
  · cases h
def glB (sc : Scope) (x : Str) : Bool := match sc.names.lookup x with
  | some .globalImplicit => true
  | _ => false
theorem glB_ok {X : Cx} {c : Ci} (g : Gd X c) {x : Str} (h : glB c.sc x = true) : Gl X x := by
  show X.env.scope.names.lookup x = _
  rw [g.hsc]
  unfold glB at h
  split at h
  · assumption
  · cases h
/-- a plain name: none of those that the machine treats apart -/
def okNm (x : Str) : Bool := !(x == ("__debug__" : Str)) && !(x == ("__classdict__" : Str)) && !(x == ("__name__" : Str))
theorem okNm_ok {x : Str} (h : okNm x = true) : (x == ("__debug__" : Str)) = false ∧ (x == ("__classdict__" : Str)) = false ∧ x ≠ "__name__" := by
  unfold okNm at h
  simp only [Bool.and_eq_true, Bool.not_eq_true'] at h
  exact ⟨h.1.1, h.1.2, fun e => by rw [e] at h; exact absurd h.2 (by decide)⟩
/-! ### built-in functions -/
inductive BltR (X : Cx) (x : Str) (f : List D → Sto → R D) : Prop
  | fn {id : String} {r : List V → Hp → VK → Prop} (hc : CallR X (.builtin id) r) (hm : X.mg x = none) (hv : bootBuiltins x = some (.builtin id)) (hd : DoN X f r) : BltR X x f
  | ty {T : String} {r : List V → Hp → VK → Prop} (hc : CallR X (.type T) r) (hm : X.mg x = none) (hv : bootBuiltins x = some (.type T)) (hd : DoN X f r) : BltR X x f
  | gl {id : String} {r : List V → Hp → VK → Prop} (hc : CallR X (.builtin id) r) (hm : X.mg x = some (.builtin id)) (hd : DoN X f r) : BltR X x f
inductive Bn where
  | len | abs | max | min | int | dm | all | any | sum | tuple | list | str | repr | gcd
  deriving DecidableEq
def bnNm : Bn → Str
  | .len => "len"
  | .abs => "abs"
  | .max => "max"
  | .min => "min"
  | .int => "int"
  | .dm => "divmod"
  | .all => "all"
  | .any => "any"
  | .sum => "sum"
  | .tuple => "tuple"
  | .list => "list"
  | .str => "str"
  | .repr => "repr"
  | .gcd => "gcd"
def bnAll : List Bn := [.len, .abs, .max, .min, .int, .dm, .all, .any, .sum, .tuple, .list, .str, .repr, .gcd]
def bnOf (x : Str) : Option Bn := bnAll.find? fun b => decide (bnNm b = x)
def bnM (m : Bool) : Bn → List D → Sto → R D
  | .len => un1 opLen
  | .abs => opAbs
  | .max => opMax
  | .min => opMin
  | .int => opInt
  | .dm => opDm
  | .all => opBls fun bs => .bl (bs.all id)
  | .any => opBls fun bs => .bl (bs.any id)
  | .sum => opInts fun ns => .int ns.sum
  | .tuple => un1 opTupOf
  | .list => un1 (opLstOf m)
  | .str => opStr
  | .repr => opRepr
  | .gcd => opGcd
theorem blt_none {X : Cx} {G : Gi} {F : Fn} (W : Wd X G F) {y : Str} (h : (blts.any fun z => decide (z.1 = y)) = true) : X.mg y = none := by
  obtain ⟨z, hz, e⟩ := List.any_eq_true.mp h
  rw [← of_decide_eq_true e]
  exact W.bl z hz
theorem bn_ok {X : Cx} {c : Ci} {G : Gi} {F : Fn} (W : Wd X G F) (g : Gd X c) (m : Bool) {x : Str} {b : Bn} (h : bnOf x = some b) (hgc : b = .gcd → G.gcd = true) : BltR X x (bnM m b) := by
  have hu := W.room.un
  have bl : ∀ (y : Str), (blts.any fun z => decide (z.1 = y)) = true → X.mg y = none := fun y hy => blt_none W hy
  have e := List.find?_some h
  rw [← of_decide_eq_true e]
  cases b with
  | len => exact .fn call_len (bl _ (by decide +kernel)) (by decide +kernel) (do_un1 do_len)
  | abs => exact .fn call_abs (bl _ (by decide +kernel)) (by decide +kernel) do_abs
  | max => exact .fn (call_max2 g.calm) (bl _ (by decide +kernel)) (by decide +kernel) do_max
  | min => exact .fn (call_min2 g.calm) (bl _ (by decide +kernel)) (by decide +kernel) do_min
  | int => exact .ty call_int1 (bl _ (by decide +kernel)) (by decide +kernel) do_int
  | dm => exact .fn call_dmA (bl _ (by decide +kernel)) (by decide +kernel) do_dm
  | all => exact .fn (cr_all g.calm) (bl _ (by decide +kernel)) (by decide +kernel) (do_bls fun _ _ _ _ => .bl _)
  | any => exact .fn (cr_any g.calm) (bl _ (by decide +kernel)) (by decide +kernel) (do_bls fun _ _ _ _ => .bl _)
  | sum => exact .fn (cr_sum g.calm) (bl _ (by decide +kernel)) (by decide +kernel) (do_ints fun _ _ _ _ => .int _)
  | tuple => exact .ty call_tuple_of (bl _ (by decide +kernel)) (by decide +kernel) (do_un1 do_tupOf)
  | list => exact .ty call_list_of (bl _ (by decide +kernel)) (by decide +kernel) (do_un1 (do_lstOf m))
  | str => exact .ty call_str_int (bl _ (by decide +kernel)) (by decide +kernel) do_str
  | repr => exact .fn (call_repr W.gq (by omega)) (bl _ (by decide +kernel)) (by decide +kernel) do_repr
  | gcd => exact .gl cr_gcd (W.gcd (hgc rfl)) do_gcd
theorem se_blt {X : Cx} {x : Str} {f : List D → Sto → R D} {e : Expr} {es : List Expr} {ma : MA} {p pos : Pos} (B : BltR X x f) (hg : Gl X x) (hx : okNm x = true) (hp : (e :: es).all plainArg = true) (ha : SA X (e :: es) ma) : SE X (.Call (.Name x p) (e :: es) [] pos) (mOpN f ma) := by
  rw [List.all_cons, Bool.and_eq_true] at hp
  obtain ⟨h1, h2, h3⟩ := okNm_ok hx
  cases B with
  | fn hc hm hv hd => exact se_opN (pe_callB hc hg hm hv pa_ra h3 h1 (star_cons hp.1) (star_any hp.2)) ha hd
  | ty hc hm hv hd => exact se_opN (pe_callTy hc hg hm hv pa_ra h3 h1 (star_cons hp.1) (star_any hp.2)) ha hd
  | gl hc hm hd => exact se_opN (pe_callBfun hc hg hm pa_ra h1 (star_cons hp.1) (star_any hp.2)) ha hd
def tyAll : List Ty := [.bool, .int, .str, .tuple, .list, .dict]
def tyOfNm (x : Str) : Option Ty := tyAll.find? fun t => decide (PySem.Str.ofString t.nm = x)
theorem tyOfNm_ok {x : Str} {t : Ty} (h : tyOfNm x = some t) : x = PySem.Str.ofString t.nm ∧ t ≠ .none ∧ (blts.any fun z => decide (z.1 = x)) = true := by
  have h2 : tyAll.find? (fun t => decide (PySem.Str.ofString t.nm = x)) = some t := h
  have e1 := List.find?_some h2
  have e : PySem.Str.ofString t.nm = x := of_decide_eq_true e1
  have hm : t ≠ .none := fun q => by
    have h1 := List.mem_of_find?_eq_some h2
    rw [q] at h1
    revert h1
    decide
  refine ⟨e.symm, hm, ?_⟩
  rw [← e]
  cases t with
  | none => exact absurd rfl hm
  | bool => decide +kernel
  | int => decide +kernel
  | str => decide +kernel
  | tuple => decide +kernel
  | list => decide +kernel
  | dict => decide +kernel
/-! ### the pieces -/
def cCst : Const → Option ME
  | .none => some (mCst .non)
  | .bool b => some (mCst (.bl b))
  | .int i => some (mCst (.int i))
  | .str x => some (mCst (.str x))
  | _ => none
def cName (P : Cfg) (c : Ci) (x : Str) : Option ME := if okNm x then
    if visB c.sc x then match ixOf c.N x with
      | some i => some (mVar i)
      | none => none
    else if glB c.sc x then match P.G.cs.lookup x with
      | some d => some (mCst d)
      | none => none
    else none
  else none
def cUn (op : UnaryOp) (ma : Option ME) : Option ME := match op, ma with
  | .USub, some m => some (mOp1 opNeg m)
  | .Not, some m => some (mNotV m)
  | _, _ => none
def binM (m : Bool) : Operator → Option Op2
  | .Add => some (opAdd m)
  | .Sub => some opSub
  | .Mult => some (opMul m)
  | .FloorDiv => some opDiv
  | .Mod => some opMod
  | .Pow => some opPow
  | .LShift => some opShl
  | _ => none
def cBin (m : Bool) (op : Operator) (ma mb : Option ME) : Option ME := match binM m op, ma, mb with
  | some f, some a, some b => some (mOp2 f a b)
  | _, _, _ => none
def isNoneC : Expr → Bool
  | .Constant .none _ _ => true
  | _ => false
/-- a comparison: of two parts, of three -/
def cCmp (ops : List CmpOp) (bs : List Expr) (ma : Option ME) (mbs : List (Option ME)) : Option ME := match ops, bs, ma, mbs with
  | [op], [b], some a, [mb] => if isNoneC b && decide (op = .Is) then some (mOp1 (opIsN false) a)
    else if isNoneC b && decide (op = .IsNot) then some (mOp1 (opIsN true) a)
    else match cmpM op, mb with
      | some f, some b' => if noSet b then some (mOp2 f a b') else none
      | _, _ => none
  | [op, op'], [_, _], some a, [some b, some d] => match cmpI op, cmpI op' with
    | some g, some g' => some (mChn g g' a b d)
    | _, _ => none
  | _, _, _, _ => none
/-- a table, asked whether a text is a key of it, and what stands there -/
def cTin (P : Cfg) (c : Ci) (ops : List CmpOp) (bs : List Expr) (ma : Option ME) : Option ME := match ops, bs, ma with
  | [op], [.Name x _], some a => if okNm x && glB c.sc x then match P.G.ts.lookup x with
      | some kvs => if op = .In then some (mOp1 (opTin false kvs) a) else if op = .NotIn then some (mOp1 (opTin true kvs) a) else none
      | none => none
    else none
  | _, _, _ => none
def cTget (P : Cfg) (c : Ci) (a : Expr) (mi : Option ME) : Option ME := match a, mi with
  | .Name x _, some m => if okNm x && glB c.sc x then match P.G.ts.lookup x with
      | some kvs => some (mOp1 (opTget kvs) m)
      | none => none
    else none
  | _, _ => none
def oOr {α : Type} (a b : Option α) : Option α := match a with
  | some x => some x
  | none => b
def oMap {α β : Type} (f : α → β) : Option α → Option β
  | some a => some (f a)
  | none => none
def isOne : Option Expr → Bool
  | some (.UnaryOp .USub (.Constant (.int i) _ _) _) => i == 1
  | _ => false
def findFi (fs : List Fi) (x : Str) (np : Nat) (kw : List Str) : Option Fi := fs.find? fun f => decide (f.nm = x) && decide (f.np = np) && decide (f.kw = kw)
theorem findFi_ok {fs : List Fi} {x : Str} {np : Nat} {kw : List Str} {f : Fi} (h : findFi fs x np kw = some f) : f ∈ fs ∧ f.nm = x ∧ f.np = np ∧ f.kw = kw := by
  have h1 := List.mem_of_find?_eq_some h
  have h2 := List.find?_some h
  simp only [Bool.and_eq_true, decide_eq_true_eq] at h2
  exact ⟨h1, h2.1.1, h2.1.2, h2.2⟩
def ownOf (N : List Str) (scope : Scope) : List (Str × Nat) := scope.names.filterMap fun y => match y.2 with
  | .local => oMap (fun i => (y.1, i)) (ixOf N y.1)
  | .cell => oMap (fun i => (y.1, i)) (ixOf N y.1)
  | _ => none
def isTupE : Expr → Bool
  | .Tuple .. => true
  | _ => false
def okIx (sl own : List Nat) : Bool := sl.all fun i => own.contains i
mutual
def cE (P : Cfg) (F : Fn) (W : Nat) : Nat → Ci → Expr → Option ME
  | 0, _, _ => none
  | n + 1, c, e => match e with
    | .Constant k _ _ => cCst k
    | .Name x _ => cName P c x
    | .UnaryOp op a _ => cUn op (cE P F W n c a)
    | .BinOp a op b pos => cBin (P.m pos) op (cE P F W n c a) (cE P F W n c b)
    | .BoolOp op es _ => cBo P F W n c op es
    | .Compare a ops bs _ => oOr (cTin P c ops bs (cE P F W n c a)) (cCmp ops bs (cE P F W n c a) (bs.map (cE P F W n c)))
    | .IfExp t a b _ => match cT P F W n c t, cE P F W n c a, cE P F W n c b with
      | some t, some a, some b => some (mIf t a b)
      | _, _, _ => none
    | .Tuple es _ _ => oMap (mOpN opTup) (cA P F W n c es)
    | .List es pos => oMap (mOpN (opLst (P.m pos))) (cA P F W n c es)
    | .Dict ks vs _ => if ks.isEmpty && vs.isEmpty then some mDct else none
    | .Subscript a i pos => match i with
      | .Slice lo hi st _ => match st with
        | none => match cE P F W n c a, cO P F W n c lo, cO P F W n c hi with
          | some a, some l, some h => some (mSl (P.m pos) a l h)
          | _, _, _ => none
        | some s => if isOne (some s) && lo.isNone && hi.isNone then oMap (mOp1 (opRev (P.m pos))) (cE P F W n c a) else none
      | i => oOr (cTget P c a (cE P F W n c i)) (match cE P F W n c a, cE P F W n c i with
        | some a, some i => some (mOp2 opIx a i)
        | _, _ => none)
    | .Call f es kws pos => match f with
      | .Name x _ => if glB c.sc x && okNm x && es.all plainArg then
          match findFi P.G.fs x es.length (kwNames kws) with
          | some fi => if kws.all fun k => k.arg.isSome then match cA P F W n c es, cK P F W n c kws with
              | some ma, some mk => some (if kws.isEmpty then mCall F fi.id fi.arr ma else mCallK F fi.id fi.arr ma mk)
              | _, _ => none
            else none
          | none => if kws.isEmpty then
              if x = "isinstance" then match es with
                | [a, .Name t _] => if glB c.sc t then match tyOfNm t, cE P F W n c a with
                    | some ty, some ma => some (mOp1 (opIsi ty) ma)
                    | _, _ => none
                  else none
                | _ => none
              else match bnOf x, es, cA P F W n c es with
                | some b, _ :: _, some ma => if b ≠ .gcd ∨ P.G.gcd = true then some (mOpN (bnM (P.m pos) b) ma) else none
                | _, _, _ => none
            else none
        else none
      | .Attribute o m ap => if kws.isEmpty && noSuper o && (ap.endLine == pos.line) then
          match es with
          | [a] => if m = "append" && plainArg a then match cE P F W n c o, cE P F W n c a with
              | some mo, some ma => some (mMt opApp mo ma)
              | _, _ => none
            else none
          | [] => if m = "pop" then oMap (mMt0 opPop) (cE P F W n c o) else none
          | _ => none
        else none
      | _ => none
    | .ListComp elt gens scope pos => cLc P F W n c elt gens scope (P.m pos)
    | _ => none
def cLc (P : Cfg) (F : Fn) (W : Nat) : Nat → Ci → Expr → List Comprehension → Scope → Bool → Option ME
  | 0, _, _, _, _, _ => none
  | n + 1, c, elt, gens, scope, m => match gens with
    | [⟨tg, it, ifs, 0⟩] => if noSet it && blkC c.N c.sc scope (ownOf c.N scope) && ownB scope (ownOf c.N scope) then
        match cI P F W n c tg it, cG P F W n (c.blk scope (ownOf c.N scope)) tg, cIf P F W n (c.blk scope (ownOf c.N scope)) ifs, cE P F W n (c.blk scope (ownOf c.N scope)) elt with
        | some mi, some (sl, g), some mt, some me => if okIx sl ((ownOf c.N scope).map (·.2)) then some (mLc m ((ownOf c.N scope).map (·.2)) g mt me mi) else none
        | _, _, _, _ => none
      else none
    | _ => none
def cIf (P : Cfg) (F : Fn) (W : Nat) : Nat → Ci → List Expr → Option MT
  | 0, _, _ => none
  | n + 1, c, es => match es with
    | [] => some mYes
    | [e] => cT P F W n c e
    | _ => none
def cO (P : Cfg) (F : Fn) (W : Nat) : Nat → Ci → Option Expr → Option (Option ME)
  | 0, _, _ => none
  | n + 1, c, e => match e with
    | none => some none
    | some e => oMap some (cE P F W n c e)
def cBo (P : Cfg) (F : Fn) (W : Nat) : Nat → Ci → BoolOp → List Expr → Option ME
  | 0, _, _, _ => none
  | n + 1, c, op, es => match es with
    | [] => none
    | a :: r => match r with
      | [] => cE P F W n c a
      | _ :: _ => match cE P F W n c a, cBo P F W n c op r with
        | some ma, some mb => some (match op with
          | .And => mAndV ma mb
          | .Or => mOrV ma mb)
        | _, _ => none
def cT (P : Cfg) (F : Fn) (W : Nat) : Nat → Ci → Expr → Option MT
  | 0, _, _ => none
  | n + 1, c, e => match e with
    | .UnaryOp op a pos => match op with
      | .Not => oMap mNotT (cT P F W n c a)
      | op => oMap mTest (cE P F W n c (.UnaryOp op a pos))
    | .BoolOp op es _ => cTb P F W n c op es
    | .Compare a ops bs _ => oMap mTest (oOr (cTin P c ops bs (cE P F W n c a)) (cCmp ops bs (cE P F W n c a) (bs.map (cE P F W n c))))
    | .IfExp .. => none
    | e => oMap mTest (cE P F W n c e)
def cTb (P : Cfg) (F : Fn) (W : Nat) : Nat → Ci → BoolOp → List Expr → Option MT
  | 0, _, _, _ => none
  | n + 1, c, op, es => match es with
    | [] => none
    | a :: r => match r with
      | [] => cT P F W n c a
      | _ :: _ => match cT P F W n c a, cTb P F W n c op r with
        | some ma, some mb => some (match op with
          | .And => mAndT ma mb
          | .Or => mOrT ma mb)
        | _, _ => none
def cA (P : Cfg) (F : Fn) (W : Nat) : Nat → Ci → List Expr → Option MA
  | 0, _, _ => none
  | n + 1, c, es => match es with
    | [] => some mNil
    | e :: r => if plainArg e then match cE P F W n c e, cA P F W n c r with
        | some m, some mr => some (mCons m mr)
        | _, _ => none
      else none
def cK (P : Cfg) (F : Fn) (W : Nat) : Nat → Ci → List Keyword → Option MA
  | 0, _, _ => none
  | n + 1, c, ks => match ks with
    | [] => some mNil
    | k :: r => match cE P F W n c k.value, cK P F W n c r with
      | some m, some mr => some (mCons m mr)
      | _, _ => none
def cG (P : Cfg) (F : Fn) (W : Nat) : Nat → Ci → Expr → Option (List Nat × MG)
  | 0, _, _ => none
  | n + 1, c, e => match e with
    | .Name x _ => match ixOf c.N x with
      | some i => if locB c.sc x && c.sb.contains x then some ([i], gNm i) else none
      | none => none
    | .Tuple es _ _ => if es.all plainArg then match cGs P F W n c es with
        | some (sl, ms) => some (sl, gTp es.length ms)
        | none => none
      else none
    | .Subscript o i _ => if notSlice i then match cE P F W n c o, cE P F W n c i with
        | some mo, some mi => some ([], gSub mo mi)
        | _, _ => none
      else none
    | _ => none
def cGs (P : Cfg) (F : Fn) (W : Nat) : Nat → Ci → List Expr → Option (List Nat × MGs)
  | 0, _, _ => none
  | n + 1, c, es => match es with
    | [] => some ([], gNil)
    | e :: r => if plainArg e then match cG P F W n c e, cGs P F W n c r with
        | some (s1, m), some (s2, ms) => some (s1 ++ s2, gCons m ms)
        | _, _ => none
      else none
def cI (P : Cfg) (F : Fn) (W : Nat) : Nat → Ci → Expr → Expr → Option MI
  | 0, _, _, _ => none
  | n + 1, c, tg, it => match it with
    | .Call f es kws pos => match f with
      | .Name x p => if x = "range" && glB c.sc x && kws.isEmpty && es.all plainArg && decide (1 ≤ es.length) && decide (es.length ≤ 2) then oMap mRg (cA P F W n c es)
        else if x = "zip" && glB c.sc x && kws.isEmpty && es.all plainArg && decide (1 ≤ es.length) && isTupE tg then oMap mZp (cA P F W n c es)
        else if x = "enumerate" && glB c.sc x && kws.isEmpty && es.all plainArg && decide (1 ≤ es.length) && isTupE tg then oMap mEn (cA P F W n c es)
        else oMap mIt (cE P F W n c (.Call (.Name x p) es kws pos))
      | f => oMap mIt (cE P F W n c (.Call f es kws pos))
    | it => oMap mIt (cE P F W n c it)
end
end Rf
set_option maxHeartbeats 4000000
namespace Rf
open PySem PySem.Spec L2
open PyProof.Rows hiding St
/-! ## the meaning is the text's -/
theorem oMap_some {α β : Type} {f : α → β} {o : Option α} {b : β} (h : oMap f o = some b) : ∃ a, o = some a ∧ b = f a := by
  cases o with
  | none => cases h
  | some a => cases h; exact ⟨a, rfl, rfl⟩
theorem mem_of_lk {β : Type} : ∀ {l : List (Str × β)} {x : Str} {d : β}, l.lookup x = some d → (x, d) ∈ l
  | [], _, _, h => by cases h
  | (y, e) :: r, x, d, h => by
    rw [List.lookup_cons] at h
    by_cases q : x = y
    · subst q
      rw [beq_self_eq_true] at h
      cases h
      exact .head _
    · have q' : (x == y) = false := by
        cases z : (x == y) with
        | false => rfl
        | true => exact absurd (eq_of_beq z) q
      rw [q'] at h
      exact .tail _ (mem_of_lk h)
section
variable {X : Cx} {c : Ci} {G : Gi} {F : Fn} {P : Cfg}
theorem se_ccst {k : Const} {j : Nat} {pos : Pos} {m : ME} (h : cCst k = some m) : SE X (.Constant k j pos) m := by
  cases k with
  | none => cases h; exact se_cst pe_non fun _ _ _ => .non
  | bool b => cases h; exact se_cst pe_bl fun _ _ _ => .bl b
  | int i => cases h; exact se_cst pe_int fun _ _ _ => .int i
  | str x => cases h; exact se_cst pe_str fun _ _ _ => .str x
  | _ => cases h
theorem se_gl {x : Str} {pos : Pos} {d : D} (W : Wd X G F) (g : Gd X c) (hx : okNm x = true) (hg : glB c.sc x = true) (h : G.cs.lookup x = some d) : SE X (.Name x pos) (mCst d) := by
  obtain ⟨h1, h2, h3⟩ := okNm_ok hx
  obtain ⟨u, v, e, r, q⟩ := W.cs (x, d) (mem_of_lk h)
  exact se_cst (pe_glob (glB_ok g hg) e r h1) q
theorem se_cname {x : Str} {pos : Pos} {m : ME} (W : Wd X P.G F) (g : Gd X c) (h : cName P c x = some m) : SE X (.Name x pos) m := by
  unfold cName at h
  split at h
  · rename_i hx
    obtain ⟨h1, h2, h3⟩ := okNm_ok hx
    split at h
    · rename_i hv
      cases e : ixOf c.N x with
      | none => rw [e] at h; cases h
      | some i => rw [e] at h; cases h; exact se_var g (ixOf_ok e) (visB_ok hv) h1 h2
    · split at h
      · rename_i hv
        cases e : P.G.cs.lookup x with
        | none => rw [e] at h; cases h
        | some i => rw [e] at h; cases h; exact se_gl W g hx hv e
      · cases h
  · cases h
/-- one operator of two -/
theorem se_bin {m : Bool} {op : Operator} {f : Op2} {a b : Expr} {ma mb : ME} {pos : Pos} (h : binM m op = some f) (ha : SE X a ma) (hb : SE X b mb) : SE X (.BinOp a op b pos) (mOp2 f ma mb) := by
  cases op <;> first | cases h | skip
  · exact se_op2 (pe_op op_addA pe_re pe_re) ha hb (do_add m)
  · exact se_op2 (pe_op (op_of0 op_sub) pe_re pe_re) ha hb (do_I2 (fun _ _ _ => trivial) fun _ _ _ _ _ => .int _)
  · exact se_op2 (pe_op op_mulA pe_re pe_re) ha hb (do_mul m)
  · exact se_op2 (pe_op op_modN pe_re pe_re) ha hb (do_I2 (fun _ _ h => of_decide_eq_true h) fun _ _ _ _ _ => .int _)
  · exact se_op2 (pe_op op_pow pe_re pe_re) ha hb (do_I2 (fun _ _ h => powB_ok h) fun _ _ _ _ _ => .int _)
  · exact se_op2 (pe_op op_shl pe_re pe_re) ha hb (do_I2 (fun _ _ h => powB_ok h) fun _ _ _ _ _ => .int _)
  · exact se_op2 (pe_op op_divA pe_re pe_re) ha hb (do_I2 (fun _ _ h => h) fun _ _ _ _ _ => .int _)
theorem se_cbin {m : Bool} {op : Operator} {a b : Expr} {oa ob : Option ME} {pos : Pos} {r : ME} (h : cBin m op oa ob = some r) (ha : ∀ x, oa = some x → SE X a x) (hb : ∀ x, ob = some x → SE X b x) : SE X (.BinOp a op b pos) r := by
  unfold cBin at h
  split at h
  · cases h
    exact se_bin (by assumption) (ha _ rfl) (hb _ rfl)
  · cases h
theorem se_cun {op : UnaryOp} {a : Expr} {oa : Option ME} {pos : Pos} {r : ME} (h : cUn op oa = some r) (ha : ∀ x, oa = some x → SE X a x) : SE X (.UnaryOp op a pos) r := by
  unfold cUn at h
  split at h
  · cases h
    exact se_op1 (pe_un un_neg pe_re) (ha _ rfl) do_neg
  · cases h
    exact se_not (ha _ rfl)
  · cases h
theorem isNoneC_ok {e : Expr} (h : isNoneC e = true) : ∃ j pos, e = .Constant .none j pos := by
  unfold isNoneC at h
  split at h
  · exact ⟨_, _, rfl⟩
  · cases h
theorem marks_no {op : CmpOp} {b : Expr} (h : noSet b = true) : behindInMarks op b = false := by
  cases b <;> first | rfl | cases h
inductive Both (X : Cx) (e : Expr) (m : ME) : Prop
  | mk (h : SE X e m) (t : ST X e (mTest m))
theorem cmp_both {ops : List CmpOp} {a : Expr} {bs : List Expr} {oa : Option ME} {f : Expr → Option ME} {pos : Pos} {r : ME} (W : Wd X G F) (h : cCmp ops bs oa (bs.map f) = some r) (ha : ∀ x, oa = some x → SE X a x) (hb : ∀ b x, f b = some x → SE X b x) : Both X (.Compare a ops bs pos) r := by
  match ops, bs with
  | [op], [b] =>
    cases oa with
    | none => cases h
    | some ma =>
      have h' : (if (isNoneC b && decide (op = .Is)) = true then some (mOp1 (opIsN false) ma)
        else if (isNoneC b && decide (op = .IsNot)) = true then some (mOp1 (opIsN true) ma)
        else match cmpM op, f b with
          | some g, some b' => if noSet b then some (mOp2 g ma b') else none
          | _, _ => none) = some r := h
      split at h'
      · rename_i hc
        rw [Bool.and_eq_true, decide_eq_true_eq] at hc
        obtain ⟨hc, rfl⟩ := hc
        cases h'
        obtain ⟨j, p, rfl⟩ := isNoneC_ok hc
        exact ⟨se_isN (ha _ rfl), st_isN (ha _ rfl)⟩
      split at h'
      · rename_i hc
        rw [Bool.and_eq_true, decide_eq_true_eq] at hc
        obtain ⟨hc, rfl⟩ := hc
        cases h'
        obtain ⟨j, p, rfl⟩ := isNoneC_ok hc
        exact ⟨se_notN (ha _ rfl), st_notN (ha _ rfl)⟩
      split at h'
      · rename_i e1 e2
        split at h'
        · rename_i hn
          cases h'
          exact ⟨se_cmp (cmpM_ok W e1) (marks_no hn) (ha _ rfl) (hb _ _ e2), st_cmp (cmpM_ok W e1) (marks_no hn) (ha _ rfl) (hb _ _ e2)⟩
        · cases h'
      · cases h'
  | [op, op'], [b, d] =>
    cases oa with
    | none => cases h
    | some ma =>
      cases e1 : f b with
      | none =>
        have h' : cCmp [op, op'] [b, d] (some ma) [f b, f d] = some r := h
        rw [e1] at h'
        cases h'
      | some mb =>
        cases e2 : f d with
        | none =>
          have h' : cCmp [op, op'] [b, d] (some ma) [f b, f d] = some r := h
          rw [e1, e2] at h'
          cases h'
        | some md =>
          have h' : cCmp [op, op'] [b, d] (some ma) [f b, f d] = some r := h
          rw [e1, e2] at h'
          have h2 : (match cmpI op, cmpI op' with
            | some g, some g' => some (mChn g g' ma mb md)
            | _, _ => none) = some r := h'
          split at h2
          · rename_i g1 g2
            cases h2
            exact ⟨se_chn g1 g2 (ha _ rfl) (hb _ _ e1) (hb _ _ e2), st_chn g1 g2 (ha _ rfl) (hb _ _ e1) (hb _ _ e2)⟩
          · cases h2
  | [], _ => cases h
  | [_], [] => cases h
  | [_], _ :: _ :: _ => cases h
  | [_, _], [] => cases h
  | [_, _], [_] => cases h
  | [_, _], _ :: _ :: _ :: _ => cases h
  | _ :: _ :: _ :: _, _ => cases h
theorem oOr_some {α : Type} {a b : Option α} {x : α} (h : oOr a b = some x) : a = some x ∨ b = some x := by
  cases a with
  | none => exact .inr h
  | some y => exact .inl h
theorem tin_both {ops : List CmpOp} {a : Expr} {bs : List Expr} {oa : Option ME} {pos : Pos} {r : ME} (W : Wd X P.G F) (g : Gd X c) (h : cTin P c ops bs oa = some r) (ha : ∀ x, oa = some x → SE X a x) : Both X (.Compare a ops bs pos) r := by
  unfold cTin at h
  split at h
  · rename_i op x p ma
    split at h
    · rename_i hc
      rw [Bool.and_eq_true] at hc
      split at h
      · rename_i kvs e
        split at h
        · rename_i ho
          cases h
          subst ho
          exact ⟨se_tin W g hc.1 (glB_ok g hc.2) (mem_of_lk e) (ha _ rfl), st_tin W g hc.1 (glB_ok g hc.2) (mem_of_lk e) (ha _ rfl)⟩
        · split at h
          · rename_i ho
            cases h
            subst ho
            exact ⟨se_tnin W g hc.1 (glB_ok g hc.2) (mem_of_lk e) (ha _ rfl), st_tnin W g hc.1 (glB_ok g hc.2) (mem_of_lk e) (ha _ rfl)⟩
          · cases h
      · cases h
    · cases h
  · cases h
theorem tget_ok {a i : Expr} {oi : Option ME} {pos : Pos} {r : ME} (W : Wd X P.G F) (g : Gd X c) (hs : PlainIx i) (h : cTget P c a oi = some r) (hi : ∀ x, oi = some x → SE X i x) : SE X (.Subscript a i pos) r := by
  unfold cTget at h
  split at h
  · split at h
    · rename_i hc
      rw [Bool.and_eq_true] at hc
      split at h
      · rename_i kvs e
        cases h
        exact se_tget W g hc.1 (glB_ok g hc.2) (mem_of_lk e) hs (hi _ rfl)
      · cases h
    · cases h
  · cases h
theorem isOne_ok {e : Option Expr} (h : isOne e = true) : ∃ k p p2, e = some (.UnaryOp .USub (.Constant (.int 1) k p) p2) := by
  unfold isOne at h
  split at h
  · rename_i i k p p2
    have q : i = 1 := by simpa using h
    exact ⟨k, p, p2, by rw [q]⟩
  · cases h
theorem okIx_ok {sl own : List Nat} (h : okIx sl own = true) : ∀ i ∈ sl, i ∈ own := fun i hi => by
  have h2 := List.all_eq_true.mp h i hi
  simpa using h2
end
/-- what fuel n reads is true -/
structure Sd (P : Cfg) (F : Fn) (W n : Nat) : Prop where
  e : ∀ (X : Cx) (c : Ci) (x : Expr) (m : ME), Wd X P.G F → Gd X c → cE P F W n c x = some m → SE X x m
  lc : ∀ (X : Cx) (c : Ci) (elt : Expr) (gens : List Comprehension) (scope : Scope) (b : Bool) (m : ME), Wd X P.G F → Gd X c → cLc P F W n c elt gens scope b = some m →
    ∃ (tg it : Expr) (ifs : List Expr) (own : List (Str × Nat)) (sl : List Nat) (g : MG) (mt : MT) (me : ME) (mi : MI), gens = [⟨tg, it, ifs, 0⟩] ∧ m = mLc b (own.map (·.2)) g mt me mi ∧ noSet it = true ∧ blkC c.N c.sc scope own = true ∧ SI X tg it mi ∧ (∀ i ∈ sl, i ∈ own.map (·.2)) ∧
      (∀ (s : Shared) (H : Hp) (C : Addr) (cl : List (Str × Addr)) (fp : List Addr), SG (X.blk s H scope (compEnvC scope cl C X.env) fp) tg sl g) ∧
      (∀ (s : Shared) (H : Hp) (C : Addr) (cl : List (Str × Addr)) (fp : List Addr), STs (X.blk s H scope (compEnvC scope cl C X.env) fp) ifs mt) ∧
      (∀ (s : Shared) (H : Hp) (C : Addr) (cl : List (Str × Addr)) (fp : List Addr), SE (X.blk s H scope (compEnvC scope cl C X.env) fp) elt me)
  f : ∀ (X : Cx) (c : Ci) (es : List Expr) (m : MT), Wd X P.G F → Gd X c → cIf P F W n c es = some m → STs X es m
  o : ∀ (X : Cx) (c : Ci) (e : Option Expr) (m : Option ME), Wd X P.G F → Gd X c → cO P F W n c e = some m → SO X e m
  bo : ∀ (X : Cx) (c : Ci) (op : BoolOp) (es : List Expr) (m : ME) (pos : Pos), Wd X P.G F → Gd X c → cBo P F W n c op es = some m → SE X (.BoolOp op es pos) m
  t : ∀ (X : Cx) (c : Ci) (x : Expr) (m : MT), Wd X P.G F → Gd X c → cT P F W n c x = some m → ST X x m
  tb : ∀ (X : Cx) (c : Ci) (op : BoolOp) (es : List Expr) (m : MT) (pos : Pos), Wd X P.G F → Gd X c → cTb P F W n c op es = some m → SW X (.BoolOp op es pos) m
  a : ∀ (X : Cx) (c : Ci) (es : List Expr) (m : MA), Wd X P.G F → Gd X c → cA P F W n c es = some m → SA X es m ∧ es.all plainArg = true
  k : ∀ (X : Cx) (c : Ci) (ks : List Keyword) (m : MA), Wd X P.G F → Gd X c → cK P F W n c ks = some m → SK X ks m
  g : ∀ (X : Cx) (c : Ci) (x : Expr) (sl : List Nat) (m : MG), Wd X P.G F → Gd X c → cG P F W n c x = some (sl, m) → SG X x sl m
  gs : ∀ (X : Cx) (c : Ci) (es : List Expr) (sl : List Nat) (m : MGs), Wd X P.G F → Gd X c → cGs P F W n c es = some (sl, m) → SGs X es sl m ∧ es.all plainArg = true
  i : ∀ (X : Cx) (c : Ci) (tg it : Expr) (m : MI), Wd X P.G F → Gd X c → cI P F W n c tg it = some m → SI X tg it m
section
variable {P : Cfg} {F : Fn} {W n : Nat}
theorem sd_lc (S : Sd P F W n) (X : Cx) (c : Ci) (elt : Expr) (gens : List Comprehension) (scope : Scope) (b : Bool) (m : ME) (w : Wd X P.G F) (g : Gd X c) (h : cLc P F W (n + 1) c elt gens scope b = some m) :
    ∃ (tg it : Expr) (ifs : List Expr) (own : List (Str × Nat)) (sl : List Nat) (g : MG) (mt : MT) (me : ME) (mi : MI), gens = [⟨tg, it, ifs, 0⟩] ∧ m = mLc b (own.map (·.2)) g mt me mi ∧ noSet it = true ∧ blkC c.N c.sc scope own = true ∧ SI X tg it mi ∧ (∀ i ∈ sl, i ∈ own.map (·.2)) ∧
      (∀ (s : Shared) (H : Hp) (C : Addr) (cl : List (Str × Addr)) (fp : List Addr), SG (X.blk s H scope (compEnvC scope cl C X.env) fp) tg sl g) ∧
      (∀ (s : Shared) (H : Hp) (C : Addr) (cl : List (Str × Addr)) (fp : List Addr), STs (X.blk s H scope (compEnvC scope cl C X.env) fp) ifs mt) ∧
      (∀ (s : Shared) (H : Hp) (C : Addr) (cl : List (Str × Addr)) (fp : List Addr), SE (X.blk s H scope (compEnvC scope cl C X.env) fp) elt me) := by
  unfold cLc at h
  split at h
  · rename_i tg it ifs
    split at h
    · rename_i hc
      rw [Bool.and_eq_true, Bool.and_eq_true] at hc
      obtain ⟨⟨h1, h2⟩, h3⟩ := hc
      split at h
      · rename_i mi sl g' mt me e1 e2 e3 e4
        split at h
        · rename_i h5
          cases h
          exact ⟨tg, it, ifs, ownOf c.N scope, sl, g', mt, me, mi, rfl, rfl, h1, h2, S.i X c tg it mi w g e1, okIx_ok h5,
            fun s H C cl fp => S.g _ _ _ _ _ (w.blk scope s H C cl fp) (g.blk h3 s H C cl fp) e2,
            fun s H C cl fp => S.f _ _ _ _ (w.blk scope s H C cl fp) (g.blk h3 s H C cl fp) e3,
            fun s H C cl fp => S.e _ _ _ _ (w.blk scope s H C cl fp) (g.blk h3 s H C cl fp) e4⟩
        · cases h
      · cases h
    · cases h
  · cases h
theorem sd_f (S : Sd P F W n) (X : Cx) (c : Ci) (es : List Expr) (m : MT) (w : Wd X P.G F) (g : Gd X c) (h : cIf P F W (n + 1) c es = some m) : STs X es m := by
  unfold cIf at h
  split at h
  · cases h; exact sts_nil
  · exact sts_one (S.t _ _ _ _ w g h)
  · cases h
theorem sd_o (S : Sd P F W n) (X : Cx) (c : Ci) (e : Option Expr) (m : Option ME) (w : Wd X P.G F) (g : Gd X c) (h : cO P F W (n + 1) c e = some m) : SO X e m := by
  unfold cO at h
  split at h
  · cases h; trivial
  · obtain ⟨a, e1, rfl⟩ := oMap_some h
    exact S.e _ _ _ _ w g e1
theorem sd_bo (S : Sd P F W n) (X : Cx) (c : Ci) (op : BoolOp) (es : List Expr) (m : ME) (pos : Pos) (w : Wd X P.G F) (g : Gd X c) (h : cBo P F W (n + 1) c op es = some m) : SE X (.BoolOp op es pos) m := by
  unfold cBo at h
  split at h
  · cases h
  · split at h
    · exact se_one (S.e _ _ _ _ w g h)
    · split at h
      · rename_i e1 e2
        cases h
        cases op with
        | And => exact se_and (S.e _ _ _ _ w g e1) (S.bo _ _ _ _ _ _ w g e2)
        | Or => exact se_or (S.e _ _ _ _ w g e1) (S.bo _ _ _ _ _ _ w g e2)
      · cases h
theorem sd_t (S : Sd P F W n) (X : Cx) (c : Ci) (x : Expr) (m : MT) (w : Wd X P.G F) (g : Gd X c) (h : cT P F W (n + 1) c x = some m) : ST X x m := by
  unfold cT at h
  split at h
  · rename_i op a pos
    cases op with
    | Not =>
      obtain ⟨a, e1, rfl⟩ := oMap_some h
      exact st_not (S.t _ _ _ _ w g e1)
    | _ =>
      obtain ⟨a, e1, rfl⟩ := oMap_some h
      exact st_val (fun _ _ => rfl) (S.e _ _ _ _ w g e1)
  · exact (S.tb _ _ _ _ _ _ w g h).st
  · obtain ⟨a, e1, rfl⟩ := oMap_some h
    rcases oOr_some e1 with e1 | e1
    · exact (tin_both w g e1 fun x hx => S.e _ _ _ _ w g hx).2
    · exact (cmp_both w e1 (fun x hx => S.e _ _ _ _ w g hx) fun b x hx => S.e _ _ _ _ w g hx).2
  · cases h
  · rename_i h1 h2 h3 h4
    obtain ⟨a, e1, rfl⟩ := oMap_some h
    refine st_val ?_ (S.e _ _ _ _ w g e1)
    cases x <;> first | exact (h1 _ _ _ rfl).elim | exact (h2 _ _ _ rfl).elim | exact (h3 _ _ _ _ rfl).elim | exact (h4 _ _ _ _ rfl).elim | exact fun _ _ => rfl
theorem sd_tb (S : Sd P F W n) (X : Cx) (c : Ci) (op : BoolOp) (es : List Expr) (m : MT) (pos : Pos) (w : Wd X P.G F) (g : Gd X c) (h : cTb P F W (n + 1) c op es = some m) : SW X (.BoolOp op es pos) m := by
  unfold cTb at h
  split at h
  · cases h
  · split at h
    · cases op with
      | And => exact sw_and1 (S.t _ _ _ _ w g h)
      | Or => exact sw_or1 (S.t _ _ _ _ w g h)
    · split at h
      · rename_i e1 e2
        cases h
        cases op with
        | And => exact sw_and (S.t _ _ _ _ w g e1) (S.tb _ _ _ _ _ _ w g e2)
        | Or => exact sw_or (S.t _ _ _ _ w g e1) (S.tb _ _ _ _ _ _ w g e2)
      · cases h
theorem sd_a (S : Sd P F W n) (X : Cx) (c : Ci) (es : List Expr) (m : MA) (w : Wd X P.G F) (g : Gd X c) (h : cA P F W (n + 1) c es = some m) : SA X es m ∧ es.all plainArg = true := by
  unfold cA at h
  split at h
  · cases h; exact ⟨sa_nil, rfl⟩
  · split at h
    · rename_i hp
      split at h
      · rename_i e1 e2
        cases h
        obtain ⟨q, q2⟩ := S.a _ _ _ _ w g e2
        exact ⟨sa_cons hp (S.e _ _ _ _ w g e1) q, by rw [List.all_cons, hp, q2]; rfl⟩
      · cases h
    · cases h
theorem sd_k (S : Sd P F W n) (X : Cx) (c : Ci) (ks : List Keyword) (m : MA) (w : Wd X P.G F) (g : Gd X c) (h : cK P F W (n + 1) c ks = some m) : SK X ks m := by
  unfold cK at h
  split at h
  · cases h; exact sk_nil
  · rename_i k r
    split at h
    · rename_i e1 e2
      cases h
      cases k
      exact sk_cons (S.e _ _ _ _ w g e1) (S.k _ _ _ _ w g e2)
    · cases h
theorem sd_g (S : Sd P F W n) (X : Cx) (c : Ci) (x : Expr) (sl : List Nat) (m : MG) (w : Wd X P.G F) (g : Gd X c) (h : cG P F W (n + 1) c x = some (sl, m)) : SG X x sl m := by
  unfold cG at h
  split at h
  · split at h
    · rename_i e1
      split at h
      · rename_i hc
        rw [Bool.and_eq_true] at hc
        cases h
        exact sg_name g (ixOf_ok e1) (locB_ok hc.1) (by simpa using hc.2)
      · cases h
    · cases h
  · split at h
    · rename_i hp
      split at h
      · rename_i e1
        cases h
        exact sg_tup g hp (S.gs _ _ _ _ _ w g e1).1
      · cases h
    · cases h
  · split at h
    · rename_i hp
      split at h
      · rename_i e1 e2
        cases h
        exact sg_sub hp (S.e _ _ _ _ w g e1) (S.e _ _ _ _ w g e2)
      · cases h
    · cases h
  · cases h
theorem sd_gs (S : Sd P F W n) (X : Cx) (c : Ci) (es : List Expr) (sl : List Nat) (m : MGs) (w : Wd X P.G F) (g : Gd X c) (h : cGs P F W (n + 1) c es = some (sl, m)) : SGs X es sl m ∧ es.all plainArg = true := by
  unfold cGs at h
  split at h
  · cases h; exact ⟨sgs_nil, rfl⟩
  · split at h
    · rename_i hp
      split at h
      · rename_i e1 e2
        cases h
        obtain ⟨q, q2⟩ := S.gs _ _ _ _ _ w g e2
        exact ⟨sgs_cons hp (S.g _ _ _ _ _ w g e1) q, by rw [List.all_cons, hp, q2]; rfl⟩
      · cases h
    · cases h
theorem isTupE_ok {e : Expr} (h : isTupE e = true) : ∃ es k p, e = .Tuple es k p := by
  unfold isTupE at h
  split at h
  · exact ⟨_, _, _, rfl⟩
  · cases h
theorem sd_i (S : Sd P F W n) (X : Cx) (c : Ci) (tg it : Expr) (m : MI) (w : Wd X P.G F) (g : Gd X c) (h : cI P F W (n + 1) c tg it = some m) : SI X tg it m := by
  unfold cI at h
  split at h
  · rename_i f es kws pos
    split at h
    · rename_i x p
      split at h
      · rename_i hc
        simp only [Bool.and_eq_true, decide_eq_true_eq] at hc
        obtain ⟨⟨⟨⟨⟨rfl, hg⟩, hk⟩, hp⟩, h1⟩, h2⟩ := hc
        obtain ⟨a, e1, rfl⟩ := oMap_some h
        obtain ⟨q, -⟩ := S.a _ _ _ _ w g e1
        have hm : X.mg "range" = none := blt_none w (by decide +kernel)
        match es, kws, h1, h2, hk with
        | [a1], [], _, _, _ =>
          rw [List.all_cons, Bool.and_eq_true] at hp
          exact si_rg1 (glB_ok g hg) hm hp.1 q
        | [a1, a2], [], _, _, _ =>
          rw [List.all_cons, Bool.and_eq_true, List.all_cons, Bool.and_eq_true] at hp
          exact si_rg2 (glB_ok g hg) hm hp.1 hp.2.1 q
        | [], _, h1, _, _ => exact absurd h1 (by decide)
        | _ :: _ :: _ :: _, _, _, h2, _ => exact absurd h2 (by simp)
        | _, _ :: _, _, _, hk => cases hk
      split at h
      · rename_i hc
        simp only [Bool.and_eq_true, decide_eq_true_eq] at hc
        obtain ⟨⟨⟨⟨⟨rfl, hg⟩, hk⟩, hp⟩, h1⟩, h2⟩ := hc
        obtain ⟨a, e1, rfl⟩ := oMap_some h
        obtain ⟨q, -⟩ := S.a _ _ _ _ w g e1
        have hm : X.mg "zip" = none := blt_none w (by decide +kernel)
        obtain ⟨ts, tk, tp, rfl⟩ := isTupE_ok h2
        match es, kws, h1, hk with
        | a1 :: ar, [], _, _ => exact si_zip (glB_ok g hg) hm hp q
        | [], _, h1, _ => exact absurd h1 (by decide)
        | _, _ :: _, _, hk => cases hk
      split at h
      · rename_i hc
        simp only [Bool.and_eq_true, decide_eq_true_eq] at hc
        obtain ⟨⟨⟨⟨⟨rfl, hg⟩, hk⟩, hp⟩, h1⟩, h2⟩ := hc
        obtain ⟨a, e1, rfl⟩ := oMap_some h
        obtain ⟨q, -⟩ := S.a _ _ _ _ w g e1
        have hm : X.mg "enumerate" = none := blt_none w (by decide +kernel)
        obtain ⟨ts, tk, tp, rfl⟩ := isTupE_ok h2
        match es, kws, h1, hk with
        | a1 :: ar, [], _, _ => exact si_enum (glB_ok g hg) hm hp q
        | [], _, h1, _ => exact absurd h1 (by decide)
        | _, _ :: _, _, hk => cases hk
      · obtain ⟨a, e1, rfl⟩ := oMap_some h
        exact si_val (S.e _ _ _ _ w g e1)
    · obtain ⟨a, e1, rfl⟩ := oMap_some h
      exact si_val (S.e _ _ _ _ w g e1)
  · obtain ⟨a, e1, rfl⟩ := oMap_some h
    exact si_val (S.e _ _ _ _ w g e1)
theorem kw_len : ∀ {kws : List Keyword}, (kws.all fun k => k.arg.isSome) = true → (kwNames kws).length = kws.length
  | [], _ => rfl
  | ⟨n, e, kp⟩ :: kws, h => by
    rw [List.all_cons, Bool.and_eq_true] at h
    cases n with
    | none => exact nomatch h.1
    | some x => exact congrArg (· + 1) (kw_len h.2)
theorem sd_call (S : Sd P F W n) (X : Cx) (c : Ci) (f : Expr) (es : List Expr) (kws : List Keyword) (pos : Pos) (m : ME) (w : Wd X P.G F) (g : Gd X c) (h : cE P F W (n + 1) c (.Call f es kws pos) = some m) : SE X (.Call f es kws pos) m := by
  unfold cE at h
  cases f with
  | Name x p =>
    dsimp only at h
    split at h
    · rename_i hc
      rw [Bool.and_eq_true, Bool.and_eq_true] at hc
      obtain ⟨⟨hg, hx⟩, hp⟩ := hc
      obtain ⟨n1, n2, n3⟩ := okNm_ok hx
      split at h
      · rename_i fi hf
        obtain ⟨hm, rfl, hnp, hkw⟩ := findFi_ok hf
        have Wf := w.fs _ hm
        split at h
        · rename_i hks
          split at h
          · rename_i ma mk e1 e2
            cases h
            obtain ⟨qa, -⟩ := S.a _ _ _ _ w g e1
            have qk := S.k _ _ _ _ w g e2
            have hkl : kws.length = fi.kw.length := by rw [hkw, kw_len hks]
            cases kws with
            | nil =>
              show SE X _ (mCall F fi.id fi.arr ma)
              cases es with
              | nil =>
                have e3 : ma = mNil := by
                  cases n with
                  | zero => cases e1
                  | succ n => unfold cA at e1; cases e1; rfl
                rw [e3]
                exact se_call0 Wf w.gq (glB_ok g hg) n1 hkw (by rw [hnp]; rfl)
              | cons e es => exact se_call Wf w.gq (glB_ok g hg) n1 hkw (by rw [hnp]) hp qa
            | cons k ks =>
              show SE X _ (mCallK F fi.id fi.arr ma mk)
              cases es with
              | nil =>
                have e3 : ma = mNil := by
                  cases n with
                  | zero => cases e1
                  | succ n => unfold cA at e1; cases e1; rfl
                rw [e3]
                exact se_callK0 Wf w.gq (glB_ok g hg) n1 hkw.symm hks (by rw [hnp]; rfl) hkl qk
              | cons e es => exact se_callK Wf w.gq (glB_ok g hg) n1 hkw.symm hks (by rw [hnp]) hp hkl qa qk
          · cases h
        · cases h
      · split at h
        · rename_i hk
          cases kws with
          | cons => cases hk
          | nil =>
            split at h
            · rename_i hi
              subst hi
              split at h
              · rename_i a t p2
                split at h
                · rename_i ht
                  split at h
                  · rename_i ty ma e1 e2
                    cases h
                    obtain ⟨q1, q2, q3⟩ := tyOfNm_ok e1
                    subst q1
                    rw [List.all_cons, Bool.and_eq_true] at hp
                    exact se_isi w q2 (glB_ok g hg) (glB_ok g ht) (blt_none w q3) hp.1 (S.e _ _ _ _ w g e2)
                  · cases h
                · cases h
              · cases h
            · split at h
              · rename_i e1 e2
                split at h
                · rename_i hgc
                  cases h
                  exact se_blt (bn_ok w g _ (by assumption) fun q => hgc.resolve_left fun z => z q) (glB_ok g hg) hx hp (S.a _ _ _ _ w g (by assumption)).1
                · cases h
              · cases h
        · cases h
    · cases h
  | Attribute o m' ap =>
    dsimp only at h
    split at h
    · rename_i hc
      rw [Bool.and_eq_true, Bool.and_eq_true] at hc
      obtain ⟨⟨hk, hs⟩, hl⟩ := hc
      cases kws with
      | cons => cases hk
      | nil =>
        split at h
        · rename_i a
          split at h
          · rename_i hm
            rw [Bool.and_eq_true, decide_eq_true_eq] at hm
            obtain ⟨rfl, hpa⟩ := hm
            split at h
            · rename_i e1 e2
              cases h
              exact se_mt PySem.F.slot_list_append PySem.F.type_list_append mt_append do_app (base_no hs) hl hpa (S.e _ _ _ _ w g e1) (S.e _ _ _ _ w g e2)
            · cases h
          · cases h
        · split at h
          · rename_i hm
            subst hm
            obtain ⟨a, e1, rfl⟩ := oMap_some h
            exact se_mt0 PySem.F.slot_list_pop PySem.F.type_list_pop mt_pop do_pop (base_no hs) hl (S.e _ _ _ _ w g e1)
          · cases h
        · cases h
    · cases h
  | _ => cases h
theorem sd_e (S : Sd P F W n) (X : Cx) (c : Ci) (x : Expr) (m : ME) (w : Wd X P.G F) (g : Gd X c) (h : cE P F W (n + 1) c x = some m) : SE X x m := by
  cases x with
  | Call f es kws pos => exact sd_call S X c f es kws pos m w g h
  | Constant k j pos => unfold cE at h; exact se_ccst h
  | Name x pos => unfold cE at h; exact se_cname w g h
  | UnaryOp op a pos => unfold cE at h; exact se_cun h fun x hx => S.e _ _ _ _ w g hx
  | BinOp a op b pos => unfold cE at h; exact se_cbin h (fun x hx => S.e _ _ _ _ w g hx) fun x hx => S.e _ _ _ _ w g hx
  | BoolOp op es pos => unfold cE at h; exact S.bo _ _ _ _ _ _ w g h
  | Compare a ops bs pos =>
    unfold cE at h
    rcases oOr_some h with h | h
    · exact (tin_both w g h fun x hx => S.e _ _ _ _ w g hx).1
    · exact (cmp_both w h (fun x hx => S.e _ _ _ _ w g hx) fun b x hx => S.e _ _ _ _ w g hx).1
  | IfExp t a b pos =>
    unfold cE at h
    dsimp only at h
    split at h
    · rename_i e1 e2 e3
      cases h
      exact se_if (S.t _ _ _ _ w g e1) (S.e _ _ _ _ w g e2) (S.e _ _ _ _ w g e3)
    · cases h
  | Tuple es k pos =>
    unfold cE at h
    obtain ⟨a, e1, rfl⟩ := oMap_some h
    exact se_tup (S.a _ _ _ _ w g e1).1
  | List es pos =>
    unfold cE at h
    obtain ⟨a, e1, rfl⟩ := oMap_some h
    exact se_lst _ (S.a _ _ _ _ w g e1).1
  | Dict ks vs pos =>
    unfold cE at h
    dsimp only at h
    split at h
    · rename_i hc
      rw [Bool.and_eq_true] at hc
      cases ks with
      | cons => cases hc.1
      | nil =>
        cases vs with
        | cons => cases hc.2
        | nil => cases h; exact se_dct
    · cases h
  | Subscript a i pos =>
    unfold cE at h
    dsimp only at h
    split at h
    · rename_i lo hi st p2
      split at h
      · split at h
        · rename_i e1 e2 e3
          cases h
          exact se_sl (S.e _ _ _ _ w g e1) (S.o _ _ _ _ w g e2) (S.o _ _ _ _ w g e3)
        · cases h
      · rename_i s
        split at h
        · rename_i hc
          rw [Bool.and_eq_true, Bool.and_eq_true] at hc
          obtain ⟨⟨h1, h2⟩, h3⟩ := hc
          obtain ⟨a', e1, rfl⟩ := oMap_some h
          obtain ⟨k, q1, q2, q3⟩ := isOne_ok h1
          cases q3
          cases lo with
          | some => cases h2
          | none =>
            cases hi with
            | some => cases h3
            | none => exact se_rev (S.e _ _ _ _ w g e1)
        · cases h
    · rename_i hns
      rcases oOr_some h with h | h
      · exact tget_ok w g (by cases i <;> first | exact (hns _ _ _ _ rfl).elim | exact fun _ _ => rfl) h fun x hx => S.e _ _ _ _ w g hx
      · split at h
        · rename_i e1 e2
          cases h
          exact se_op2 (pe_ix ix_seq pe_re pe_re (by cases i <;> first | exact (hns _ _ _ _ rfl).elim | exact fun _ _ => rfl)) (S.e _ _ _ _ w g e1) (S.e _ _ _ _ w g e2) do_ix
        · cases h
  | ListComp elt gens scope pos =>
    unfold cE at h
    obtain ⟨tg, it, ifs, own, sl, g', mt, me, mi, rfl, rfl, h1, h2, h3, h4, h5, h6, h7⟩ := S.lc _ _ _ _ _ _ _ w g h
    exact se_lc _ g h1 h2 h3 h4 h5 h6 h7
  | _ => cases h
theorem sd_all (P : Cfg) (F : Fn) (W : Nat) : ∀ n : Nat, Sd P F W n
  | 0 => by
    constructor
    all_goals intros
    all_goals first
      | (rename_i h; unfold cE at h; cases h)
      | (rename_i h; unfold cLc at h; cases h)
      | (rename_i h; unfold cIf at h; cases h)
      | (rename_i h; unfold cO at h; cases h)
      | (rename_i h; unfold cBo at h; cases h)
      | (rename_i h; unfold cT at h; cases h)
      | (rename_i h; unfold cTb at h; cases h)
      | (rename_i h; unfold cA at h; cases h)
      | (rename_i h; unfold cK at h; cases h)
      | (rename_i h; unfold cG at h; cases h)
      | (rename_i h; unfold cGs at h; cases h)
      | (rename_i h; unfold cI at h; cases h)
  | n + 1 =>
    have S := sd_all P F W n
    ⟨sd_e S, sd_lc S, sd_f S, sd_o S, sd_bo S, sd_t S, sd_tb S, sd_a S, sd_k S, sd_g S, sd_gs S, sd_i S⟩
end
end Rf
set_option maxHeartbeats 4000000
namespace Rf
open PySem PySem.Spec L2
open PyProof.Rows hiding St
/-! ## statements: from the text to its meaning -/
def isNm : Expr → Bool
  | .Name .. => true
  | _ => false
/-- the stores of such a pair come in their order -/
def noSwap (t e : Expr) : Bool := match t with
  | .Tuple ts _ _ => match e with
    | .Tuple vs _ _ => !(ts.length == 2 || ts.length == 3) || vs.length != ts.length || !(ts.all isNm) || vs.all (foldedForSure 8)
    | _ => true
  | .List .. => false
  | _ => true
theorem fm_len {β : Type} {f : Expr → Option β} (hf : ∀ e, isNm e = false → f e = none) : ∀ {ts : List Expr}, ts.all isNm = false → (ts.filterMap f).length < ts.length
  | [], h => by cases h
  | t :: ts, h => by
    rw [List.all_cons] at h
    cases q : isNm t with
    | false =>
      rw [List.filterMap_cons, hf t q]
      exact Nat.lt_succ_of_le (List.length_filterMap_le _ _)
    | true =>
      rw [q, Bool.true_and] at h
      have ih := fm_len hf h
      rw [List.filterMap_cons]
      cases f t with
      | none => exact Nat.lt_succ_of_lt ih
      | some b => exact Nat.succ_lt_succ ih
theorem noSwap_ok {t e : Expr} (h : noSwap t e = true) (env : Env) : swappedStores [t] e env = pure none := by
  cases t with
  | List => cases h
  | Tuple ts k pt =>
    cases e with
    | Tuple vs k2 p2 =>
      have h' : (!(ts.length == 2 || ts.length == 3) || vs.length != ts.length || !(ts.all isNm) || vs.all (foldedForSure 8)) = true := h
      unfold swappedStores
      dsimp only
      by_cases c1 : (!(ts.length == 2 || ts.length == 3) || vs.length != ts.length || env.blockKind != .function) = true
      · rw [if_pos c1]
      rw [if_neg c1]
      split
      · rfl
      by_cases c2 : ts.all isNm = true
      · have c3 : vs.all (foldedForSure 8) = true := by
          rw [c2] at h'
          simp only [Bool.or_eq_true, not_or] at c1
          simp only [Bool.or_eq_true, Bool.not_true, Bool.false_eq_true, or_false] at h'
          rcases h' with h' | h'
          · rcases h' with h' | h'
            · exact absurd h' c1.1.1
            · exact absurd h' c1.1.2
          · exact h'
        split
        · rfl
        · first | rfl | rw [if_pos c3]
      · rw [if_pos]
        have := fm_len (f := fun x => match x with
          | .Name id pos => if (env.kindOf id == some .local && pos.line == (ts.head?.map (·.pos.line)).getD 0) = true then some id else none
          | _ => none) (fun e he => by cases e <;> first | rfl | cases he) (ts := ts) (by simpa using c2)
        rw [Bool.or_eq_true]
        left
        exact bne_iff_ne.mpr (Nat.ne_of_lt this)
    | _ => rfl
  | _ => rfl
/-- one of them is no plain local name -/
def offLoc (c : Ci) (e : Expr) : Bool := match e with
  | .Name x _ => !decide (c.sc.names.lookup x = some .local)
  | _ => true
def noSwapC (c : Ci) (t e : Expr) : Bool := match t, e with
  | .Tuple ts _ _, .Tuple _ _ _ => ts.any (offLoc c)
  | _, _ => false
theorem fm_len2 {β : Type} {f : Expr → Option β} {p : Expr → Bool} (hf : ∀ e, p e = true → f e = none) : ∀ {ts : List Expr}, ts.any p = true → (ts.filterMap f).length < ts.length
  | [], h => by cases h
  | t :: ts, h => by
    rw [List.any_cons] at h
    cases q : p t with
    | true =>
      rw [List.filterMap_cons, hf t q]
      exact Nat.lt_succ_of_le (List.length_filterMap_le _ _)
    | false =>
      rw [q, Bool.false_or] at h
      have ih := fm_len2 hf h
      rw [List.filterMap_cons]
      cases f t with
      | none => exact Nat.lt_succ_of_lt ih
      | some b => exact Nat.succ_lt_succ ih
theorem noSwapC_ok {X : Cx} {c : Ci} (g : Gd X c) {t e : Expr} (h : noSwapC c t e = true) : swappedStores [t] e X.env = pure none := by
  unfold noSwapC at h
  split at h
  · rename_i ts k pt vs k2 p2
    unfold swappedStores
    dsimp only
    by_cases c1 : (!(ts.length == 2 || ts.length == 3) || vs.length != ts.length || X.env.blockKind != .function) = true
    · rw [if_pos c1]
    rw [if_neg c1]
    split
    · rfl
    · rw [if_pos]
      have := fm_len2 (p := offLoc c) (f := fun x => match x with
        | .Name id pos => if (X.env.kindOf id == some .local && pos.line == (ts.head?.map (·.pos.line)).getD 0) = true then some id else none
        | _ => none) (fun e he => by
          cases e with
          | Name x p =>
            have h1 : X.env.kindOf x = c.sc.names.lookup x := by show X.env.scope.names.lookup x = _; rw [g.hsc]
            have h2 : ¬ c.sc.names.lookup x = some .local := by simpa [offLoc] using he
            show (if (X.env.kindOf x == some .local && p.line == (ts.head?.map (·.pos.line)).getD 0) = true then some x else none) = none
            rw [h1]
            simp [h2]
          | _ => rfl) (ts := ts) h
      rw [Bool.or_eq_true]
      left
      exact bne_iff_ne.mpr (Nat.ne_of_lt this)
  · cases h
/-- two plain local names on a line: stored from the right -/
def swap2 (c : Ci) (x y : Str) (px py : Pos) (a b : Expr) : Bool :=
  decide (c.sc.names.lookup x = some .local) && decide (c.sc.names.lookup y = some .local) && decide (c.sc.kind = .function) && !(x == y) && (py.line == px.line) && plainArg a && plainArg b && !([a, b].all (foldedForSure 8)) && !([a, b].all (constantsAlone 8))
theorem star_no {vs : List Expr} (h : vs.all plainArg = true) : (vs.any fun | .Starred .. => true | _ => false) = false := by
  induction vs with
  | nil => rfl
  | cons v vs ih =>
    rw [List.all_cons, Bool.and_eq_true] at h
    rw [List.any_cons, ih h.2, Bool.or_false]
    cases v <;> first | rfl | cases h.1
theorem swap2_ok {X : Cx} {c : Ci} (g : Gd X c) {x y : Str} {px py pt p2 : Pos} {a b : Expr} {k k2} (h : swap2 c x y px py a b = true) : swappedStores [.Tuple [.Name x px, .Name y py] k pt] (.Tuple [a, b] k2 p2) X.env = pure (some [x, y]) := by
  unfold swap2 at h
  simp only [Bool.and_eq_true, decide_eq_true_eq, Bool.not_eq_true'] at h
  obtain ⟨⟨⟨⟨⟨⟨⟨⟨h1, h2⟩, h3⟩, h4⟩, h5⟩, h6⟩, h7⟩, h8⟩, h9⟩ := h
  have k1 : X.env.kindOf x = some .local := by show X.env.scope.names.lookup x = _; rw [g.hsc]; exact h1
  have k2 : X.env.kindOf y = some .local := by show X.env.scope.names.lookup y = _; rw [g.hsc]; exact h2
  have k3 : X.env.blockKind = .function := by unfold Env.blockKind; rw [g.hsc, h3]; rfl
  have hst := star_no (vs := [a, b]) (by simp [h6, h7])
  have hpx : (Expr.Name x px).pos = px := rfl
  have e1 : ([.Name x px, .Name y py] : List Expr).filterMap (fun
    | .Name id pos => if (X.env.kindOf id == some .local && pos.line == px.line) = true then some id else none
    | _ => none) = [x, y] := by
    simp only [List.filterMap_cons, List.filterMap_nil, k1, k2, h5, beq_self_eq_true, Bool.and_self, if_true]
  have e2 : [x, y].eraseDups = [x, y] := by
    have : (y == x) = false := by
      cases q : (y == x) with
      | false => rfl
      | true => rw [eq_of_beq q, beq_self_eq_true] at h4; cases h4
    simp [List.eraseDups_cons, this]
  unfold swappedStores
  dsimp only [pure_bind]
  rw [if_neg (by rw [k3]; exact Bool.false_ne_true)]
  refine (if_neg (fun (z : _ = true) => Bool.false_ne_true (hst.symm.trans z))).trans ?_
  simp only [List.filterMap_cons, List.filterMap_nil, List.head?_cons, Option.map_some, Option.getD_some, hpx, k1, k2, h5, beq_self_eq_true, Bool.and_self, if_true, e2, h8, h9]
  rfl
/-- a pair of names takes a pair -/
def mPar (i j : Nat) (ma : MA) : MS := fun env st => (ma env st).bd fun ds s => match ds with
  | [x, y] => .ok (.nx ((env.set i (some x)).set j (some y))) s
  | _ => .bad
theorem sx_par {X : Cx} {c : Ci} (g : Gd X c) {i j : Nat} {x y : Str} {px py pt p2 pos : Pos} {a b : Expr} {k k2} {ma : MA} (h : swap2 c x y px py a b = true) (hi : c.N[i]? = some x) (hj : c.N[j]? = some y) (ha : SA X [a, b] ma) : SX X (.Assign [.Tuple [.Name x px, .Name y py] k pt] (.Tuple [a, b] k2 p2) pos) (mPar i j ma) := by
  intro ξ ρ H σ env s E e0 hr w
  have h' := h
  unfold swap2 at h'
  simp only [Bool.and_eq_true, decide_eq_true_eq, Bool.not_eq_true'] at h'
  obtain ⟨⟨⟨⟨⟨⟨⟨⟨h1, h2⟩, h3⟩, h4⟩, h5⟩, h6⟩, h7⟩, h8⟩, h9⟩ := h'
  have hij : i ≠ j := fun e => by
    subst e
    rw [hi] at hj
    cases hj
    rw [beq_self_eq_true] at h4
    cases h4
  refine (ps_par g.calm (by rw [g.hN]; exact g.nd) (by rw [g.hN]; exact hi) (by rw [g.hN]; exact hj) hij (by rw [g.hsc]; exact h1) (by rw [g.hsc]; exact h2) pa_ra (swap2_ok g h)).rx ?_
  refine ha ξ ρ H σ env s _ e0 hr (R.wp_mono (R.wp_bd.mp w) fun ds s1 w1 ρ1 H1 vs x1 h1' r1 hl => ?_)
  cases r1 with
  | nil => exact w1.elim
  | cons q r =>
    cases r with
    | nil => exact w1.elim
    | cons q2 r =>
      cases r with
      | cons => exact w1.elim
      | nil => exact ⟨_, _, rfl, w1 ρ1 H1 _ x1 h1' (((e0.xt x1).set q).set q2)⟩
def swap3 (c : Ci) (x y z : Str) (px py pz : Pos) (vs : List Expr) : Bool :=
  decide (c.sc.names.lookup x = some .local) && decide (c.sc.names.lookup y = some .local) && decide (c.sc.names.lookup z = some .local) && decide (c.sc.kind = .function) && !(x == y) && !(x == z) && !(y == z) && (py.line == px.line) && (pz.line == px.line) && vs.all plainArg && !(vs.all (foldedForSure 8)) && !(vs.all (constantsAlone 8))
theorem nbeq {x y : Str} (h : (x == y) = false) : x ≠ y ∧ (y == x) = false := by
  have n : x ≠ y := fun e => by
    rw [e, beq_self_eq_true] at h
    cases h
  refine ⟨n, ?_⟩
  cases q : (y == x) with
  | false => rfl
  | true => exact absurd (eq_of_beq q).symm n
theorem swap3_ok {X : Cx} {c : Ci} (g : Gd X c) {x y z : Str} {px py pz pt p2 : Pos} {a b d : Expr} {k k2} (h : swap3 c x y z px py pz [a, b, d] = true) : swappedStores [.Tuple [.Name x px, .Name y py, .Name z pz] k pt] (.Tuple [a, b, d] k2 p2) X.env = pure (some [x, y, z]) := by
  unfold swap3 at h
  simp only [Bool.and_eq_true, decide_eq_true_eq, Bool.not_eq_true'] at h
  obtain ⟨⟨⟨⟨⟨⟨⟨⟨⟨⟨⟨h1, h2⟩, h2'⟩, h3⟩, h4⟩, h4'⟩, h4''⟩, h5⟩, h5'⟩, h6⟩, h8⟩, h9⟩ := h
  have k1 : X.env.kindOf x = some .local := by show X.env.scope.names.lookup x = _; rw [g.hsc]; exact h1
  have k2 : X.env.kindOf y = some .local := by show X.env.scope.names.lookup y = _; rw [g.hsc]; exact h2
  have k2' : X.env.kindOf z = some .local := by show X.env.scope.names.lookup z = _; rw [g.hsc]; exact h2'
  have k3 : X.env.blockKind = .function := by unfold Env.blockKind; rw [g.hsc, h3]; rfl
  have hst := star_no h6
  have hpx : (Expr.Name x px).pos = px := rfl
  have e1 : ([.Name x px, .Name y py, .Name z pz] : List Expr).filterMap (fun
    | .Name id pos => if (X.env.kindOf id == some .local && pos.line == px.line) = true then some id else none
    | _ => none) = [x, y, z] := by
    simp only [List.filterMap_cons, List.filterMap_nil, k1, k2, k2', h5, h5', beq_self_eq_true, Bool.and_self, if_true]
  have e2 : [x, y, z].eraseDups = [x, y, z] := by
    simp [List.eraseDups_cons, (nbeq h4).2, (nbeq h4').2, (nbeq h4'').2]
  unfold swappedStores
  dsimp only [pure_bind]
  rw [if_neg (by rw [k3]; exact Bool.false_ne_true)]
  refine (if_neg (fun (z : _ = true) => Bool.false_ne_true (hst.symm.trans z))).trans ?_
  simp only [List.filterMap_cons, List.filterMap_nil, List.head?_cons, Option.map_some, Option.getD_some, hpx, k1, k2, k2', h5, h5', beq_self_eq_true, Bool.and_self, if_true, e2, h8, h9]
  rfl
def mPar3 (i j l : Nat) (ma : MA) : MS := fun env st => (ma env st).bd fun ds s => match ds with
  | [x, y, z] => .ok (.nx (((env.set i (some x)).set j (some y)).set l (some z))) s
  | _ => .bad
theorem sx_par3 {X : Cx} {c : Ci} (g : Gd X c) {i j l : Nat} {x y z : Str} {px py pz pt p2 pos : Pos} {a b d : Expr} {k k2} {ma : MA} (h : swap3 c x y z px py pz [a, b, d] = true) (hi : c.N[i]? = some x) (hj : c.N[j]? = some y) (hl : c.N[l]? = some z) (ha : SA X [a, b, d] ma) : SX X (.Assign [.Tuple [.Name x px, .Name y py, .Name z pz] k pt] (.Tuple [a, b, d] k2 p2) pos) (mPar3 i j l ma) := by
  intro ξ ρ H σ env s E e0 hr w
  have h' := h
  unfold swap3 at h'
  simp only [Bool.and_eq_true, decide_eq_true_eq, Bool.not_eq_true'] at h'
  obtain ⟨⟨⟨⟨⟨⟨⟨⟨⟨⟨⟨h1, h2⟩, h2'⟩, h3⟩, h4⟩, h4'⟩, h4''⟩, h5⟩, h5'⟩, h6⟩, h8⟩, h9⟩ := h'
  have ne : ∀ {i j : Nat} {x y : Str}, c.N[i]? = some x → c.N[j]? = some y → (x == y) = false → i ≠ j := fun hi hj h e => by
    subst e
    rw [hi] at hj
    cases hj
    exact (nbeq h).1 rfl
  refine (ps_par3 g.calm (by rw [g.hN]; exact g.nd) (by rw [g.hN]; exact hi) (by rw [g.hN]; exact hj) (by rw [g.hN]; exact hl) (ne hi hj h4) (ne hi hl h4') (ne hj hl h4'') (by rw [g.hsc]; exact h1) (by rw [g.hsc]; exact h2) (by rw [g.hsc]; exact h2') pa_ra (swap3_ok g h)).rx ?_
  refine ha ξ ρ H σ env s _ e0 hr (R.wp_mono (R.wp_bd.mp w) fun ds s1 w1 ρ1 H1 vs x1 h1' r1 hl => ?_)
  cases r1 with
  | nil => exact w1.elim
  | cons q r =>
    cases r with
    | nil => exact w1.elim
    | cons q2 r =>
      cases r with
      | nil => exact w1.elim
      | cons q3 r =>
        cases r with
        | cons => exact w1.elim
        | nil => exact ⟨_, _, _, rfl, w1 ρ1 H1 _ x1 h1' ((((e0.xt x1).set q).set q2).set q3)⟩
end Rf
set_option maxHeartbeats 4000000
namespace Rf
open PySem PySem.Spec L2
open PyProof.Rows hiding St
/-! ## the meaning of statements -/
def lcOk (c : Ci) (y : Str) (py pos : Pos) (scope : Scope) : Bool := decide (c.sc.kind = .function) && decide (c.sc.names.lookup y = some .local) && (py.line == pos.line) && !(scope.names.any fun (n, k) => n == y && (k == .local || k == .cell))
def oBad {α : Type} (o : Option α) (f : α → MS) : MS := match o with
  | some a => f a
  | none => mBad
/-- a pair, a triple of names takes its values -/
def cPar (c : Ci) (t e : Expr) (ma : List Expr → Option MA) : MS := match t, e with
  | .Tuple [.Name x px, .Name y py] _ _, .Tuple [a, b] _ _ => if swap2 c x y px py a b then
      match ixOf c.N x, ixOf c.N y, ma [a, b] with
      | some i, some j, some m => mPar i j m
      | _, _, _ => mBad
    else mBad
  | .Tuple [.Name x px, .Name y py, .Name z pz] _ _, .Tuple [a, b, d] _ _ => if swap3 c x y z px py pz [a, b, d] then
      match ixOf c.N x, ixOf c.N y, ixOf c.N z, ma [a, b, d] with
      | some i, some j, some l, some m => mPar3 i j l m
      | _, _, _, _ => mBad
    else mBad
  | _, _ => mBad
mutual
def cS (P : Cfg) (F : Fn) (W : Nat) : Nat → Ci → Stmt → MS
  | 0, _, _ => mBad
  | n + 1, c, st => match st with
    | .Pass _ => mPass
    | .Break _ => mBrk
    | .Continue _ => mCnt
    | .Expr e _ => if noComp e then oBad (cE P F W n c e) mExp else mBad
    | .Return none _ => mRetN
    | .Return (some e) _ => oBad (cE P F W n c e) mRet
    | .If t a b _ => oBad (cT P F W n c t) fun mt => mIfS mt (cSs P F W n c a) (cSs P F W n c b)
    | .While t b o _ => if o.isEmpty then oBad (cT P F W n c t) fun mt => mWhl W mt (cSs P F W n c b) else mBad
    | .For tg it b o _ => if o.isEmpty && noSet it then oBad (cG P F W n c tg) fun g => oBad (cI P F W n c tg it) fun mi => mFor g.2 mi (cSs P F W n c b) else mBad
    | .Assign ts e pos => match ts with
      | [t] => if noComp e then
          if (noSwap t e || noSwapC c t e) && plainArg t then oBad (cG P F W n c t) fun g => oBad (cE P F W n c e) fun m => mAsg g.2 m
          else cPar c t e (cA P F W n c)
        else match t, e with
          | .Name y py, .ListComp elt gens scope lpos => if lcOk c y py lpos scope then oBad (ixOf c.N y) fun i => oBad (cLc P F W n c elt gens scope (P.m lpos)) fun m => mAsg (gNm i) m else mBad
          | _, _ => mBad
      | _ => mBad
    | _ => mBad
def cSs (P : Cfg) (F : Fn) (W : Nat) : Nat → Ci → List Stmt → MS
  | 0, _, _ => mBad
  | n + 1, c, sts => match sts with
    | [] => mPass
    | st :: r => match r with
      | [] => cS P F W n c st
      | r => mSeq (cS P F W n c st) (cSs P F W n c r)
end
section
variable {X : Cx} {P : Cfg} {F : Fn} {W : Nat} {c : Ci}
theorem ss_bad {sts : List Stmt} : SS X sts mBad := fun ξ ρ H σ env s E e0 hr w => w.elim
theorem sx_oBad {α : Type} {o : Option α} {f : α → MS} {st : Stmt} (h : ∀ a, o = some a → SX X st (f a)) : SX X st (oBad o f) := by
  cases o with
  | none => exact sx_bad
  | some a => exact h a rfl
theorem sx_cPar {t e : Expr} {ma : List Expr → Option MA} {pos : Pos} (g : Gd X c) (h : ∀ es m, ma es = some m → SA X es m) : SX X (.Assign [t] e pos) (cPar c t e ma) := by
  unfold cPar
  split
  · split
    · split
      · exact sx_par g (by assumption) (ixOf_ok (by assumption)) (ixOf_ok (by assumption)) (h _ _ (by assumption))
      · exact sx_bad
    · exact sx_bad
  · split
    · split
      · rename_i e1 e2 e3 e4
        exact sx_par3 g (by assumption) (ixOf_ok e1) (ixOf_ok e2) (ixOf_ok e3) (h _ _ e4)
      · exact sx_bad
    · exact sx_bad
  · exact sx_bad
theorem sx_all (w : Wd X P.G F) (g : Gd X c) : ∀ n : Nat, (∀ st, SX X st (cS P F W n c st)) ∧ ∀ sts, SS X sts (cSs P F W n c sts)
  | 0 => ⟨fun st => by unfold cS; exact sx_bad, fun sts => by unfold cSs; exact ss_bad⟩
  | n + 1 => by
    obtain ⟨ih, ihs⟩ := sx_all w g n
    have S := sd_all P F W n
    refine ⟨fun st => ?_, fun sts => ?_⟩
    · unfold cS
      split
      · exact sx_pass
      · exact sx_brk
      · exact sx_cnt
      · split
        · exact sx_oBad fun m e1 => sx_exp (by assumption) (S.e _ _ _ _ w g e1)
        · exact sx_bad
      · exact sx_retN
      · exact sx_oBad fun m e1 => sx_ret (S.e _ _ _ _ w g e1)
      · exact sx_oBad fun m e1 => sx_if (S.t _ _ _ _ w g e1) (ihs _) (ihs _)
      · rename_i t b o p
        split
        · rename_i ho
          cases o with
          | cons => cases ho
          | nil => exact sx_oBad fun m e1 => sx_while g (S.t _ _ _ _ w g e1) (ihs _)
        · exact sx_bad
      · rename_i tg it b o p
        split
        · rename_i ho
          rw [Bool.and_eq_true] at ho
          cases o with
          | cons => cases ho.1
          | nil => exact sx_oBad fun m e1 => sx_oBad fun mi e2 => sx_for g ho.2 (S.g _ _ _ _ _ w g e1) (S.i _ _ _ _ _ w g e2) (ihs _)
        · exact sx_bad
      · split
        · split
          · rename_i hn
            split
            · rename_i hc
              rw [Bool.and_eq_true] at hc
              exact sx_oBad fun m e1 => sx_oBad fun mi e2 => sx_asg hn (by rcases Bool.or_eq_true_iff.mp hc.1 with q | q; exact noSwap_ok q _; exact noSwapC_ok g q) hc.2 (S.g _ _ _ _ _ w g e1) (S.e _ _ _ _ w g e2)
            · exact sx_cPar g fun es m e1 => (S.a _ _ _ _ w g e1).1
          · split
            · split
              · rename_i hc
                unfold lcOk at hc
                simp only [Bool.and_eq_true, decide_eq_true_eq, Bool.not_eq_true'] at hc
                obtain ⟨⟨⟨h1, h2⟩, h3⟩, h4⟩ := hc
                refine sx_oBad fun i e1 => sx_oBad fun m e2 => ?_
                obtain ⟨tg, it, ifs, own, sl, g', mt, me, mi, rfl, rfl, q1, q2, q3, q4, q5, q6, q7⟩ := S.lc _ _ _ _ _ _ _ w g e2
                exact sx_setLc _ g h1 (ixOf_ok e1) h2 h3 h4 q1 q2 q3 q4 q5 q6 q7
              · exact sx_bad
            · exact sx_bad
        · exact sx_bad
      · exact sx_bad
    · unfold cSs
      split
      · exact ss_nil
      · split
        · exact ss_one (ih _)
        · exact ss_cons (ih _) (ihs _)
end
end Rf
set_option maxHeartbeats 4000000
namespace Rf
open PySem PySem.Spec L2
open PyProof.Rows hiding St
/-! ## defs by number -/
structure Pd where
  d : He.DefD
  N : List Str
  ps : List Str
def Pd.ci (p : Pd) : Ci := ⟨p.d.scope, p.N, p.N⟩
/-- a call: the body's meaning over the arguments -/
def runB (np tot : Nat) (m : MS) (ds : List D) (st : Sto) : R D := if ds.length = np then (m (ds.map some ++ List.replicate (tot - np) none) st).bd fun f s => match f with
    | .nx _ => .ok .non s
    | .rt d => .ok d s
    | _ => .bad
  else .bad
abbrev Bds := Nat → Fn → Nat × Nat × MS
def callN (B : Bds) : Nat → Fn
  | 0 => fun _ _ _ => .bad
  | n + 1 => fun id ds st => runB (B id (callN B n)).1 (B id (callN B n)).2.1 (B id (callN B n)).2.2 ds st
def bdsOf (Pl : List Pd) (P : Cfg) (W fu : Nat) : Bds := fun id F => match Pl[id]? with
  | some p => (p.ps.length, p.N.length, cSs P F W fu p.ci p.d.body)
  | none => (0, 0, mBad)
/-- how a call's arguments come to the parameters -/
def BindQ (p : Pd) (e : Fi) : Prop := ∀ (K : PySem.W.Frag) (f : Addr) (fd : FuncData), FunD K p.d.name p.d.qual p.d.params p.d.body p.d.scope (p.d.dvs K) (p.d.kws K) f fd →
  ∀ (s : Shared) (us ws : List Value), K.In s.heap → us.length = e.np → ws.length = e.kw.length → ∃ zs, BindsTo s fd ⟨us, e.kw.zip ws⟩ (p.ps.zip zs) ∧
    Paired (fun (a : Src) (z : Value) => match a with | .at i => (us ++ ws)[i]? = some z | .int i => ∃ t, z = .int i t) e.arr zs
theorem bindQ0 {p : Pd} {e : Fi} (hd : p.d.dfl = [])
    (h : ∀ (kV doc pm : Value) (an : Option Addr) (cdv ct : Value) (us ws : List Value), us.length = e.np → ws.length = e.kw.length → ∃ zs, bindArgs (PySem.W.fnOf p.d.name p.d.qual p.d.params p.d.body p.d.scope .none kV doc pm an cdv ct) ⟨us, e.kw.zip ws⟩ = pure (p.ps.zip zs) ∧
      Paired (fun (a : Src) (z : Value) => match a with | .at i => (us ++ ws)[i]? = some z | .int i => ∃ t, z = .int i t) e.arr zs) : BindQ p e := by
  intro K f fd Fd s us ws X h1 h2
  obtain ⟨oc, od, dV, kV, doc, pm, an, cdv, ct, osl, rfl, lk, hcd, hD, hK⟩ := Fd.ex
  have e0 : p.d.dvs K = [] := by unfold He.DefD.dvs; rw [hd]; rfl
  rw [e0] at hD
  rcases hD with ⟨_, rfl⟩ | ⟨q, _⟩
  · obtain ⟨zs, q1, q2⟩ := h kV doc pm an cdv ct us ws h1 h2
    exact ⟨zs, .of_eq q1, q2⟩
  · exact absurd rfl q
/-- what the head has told -/
structure Tp (K : PySem.W.Frag) (w : World) (mg : Str → Option Value) (Pl : List Pd) (G : Gi) : Prop where
  df : ∀ (id : Nat) (p : Pd), Pl[id]? = some p → ∃ fd, FunD K p.d.name p.d.qual p.d.params p.d.body p.d.scope (p.d.dvs K) (p.d.kws K) (He.fAd K p.d.at_) fd
  sc : ∀ p ∈ Pl, FnScope p.N p.ps p.d.scope
  fs : ∀ e ∈ G.fs, ∃ p, Pl[e.id]? = some p ∧ mg e.nm = some (.ref (He.fAd K p.d.at_)) ∧ p.ps.length = e.arr.length ∧ BindQ p e
  bl : ∀ z ∈ blts, mg z.1 = none
  cs : ∀ z ∈ G.cs, ∃ u v, mg z.1 = some u ∧ RelV v u ∧ ∀ ξ ρ H, Rp ⟨K, ξ⟩ ρ H v z.2
  gcd : G.gcd = true → mg "gcd" = some (.builtin "math.gcd")
  tb : ∀ t ∈ G.ts, ∃ a, mg t.1 = some (.ref a) ∧ TbK K w a t.2
theorem er_start {K : Kx} {ρ : List Addr} {H : Hp} {N : List Str} {vs : List V} {ds : List D} (r : Rps K ρ H vs ds) : Er K ρ H (L2.start N vs) (ds.map some ++ List.replicate (N.length - ds.length) none) := by
  have hl := r.length
  constructor
  · unfold L2.start
    simp [hl]
  · intro i d h
    unfold L2.start
    by_cases hi : i < ds.length
    · rw [List.getElem?_append_left (by simpa using hi)] at h
      rw [List.getElem?_append_left (by simpa [hl] using hi)]
      rw [List.getElem?_map] at h
      cases e : ds[i]? with
      | none => rw [e] at h; cases h
      | some d' =>
        rw [e] at h
        cases h
        obtain ⟨v, q1, q2⟩ := r.get e
        exact ⟨v, by rw [List.getElem?_map, q1]; rfl, q2⟩
    · rw [List.getElem?_append_right (by simpa using hi)] at h
      rw [List.getElem?_replicate] at h
      split at h <;> cases h
section
variable {P : Program} {w : World} {K : PySem.W.Frag} {mg : Str → Option Value} {base : Heap} {Pl : List Pd} {C : Cfg} {W fu : Nat}
theorem gq_deeper {A : Around} (h : Gq A) (e : Env) : Gq (A.deeper e) := h
theorem fg_all (T : Tp K w mg Pl C.G) : ∀ (n id : Nat) (p : Pd) (fd : FuncData), Pl[id]? = some p → FunD K p.d.name p.d.qual p.d.params p.d.body p.d.scope (p.d.dvs K) (p.d.kws K) (He.fAd K p.d.at_) fd →
    Fg P w K mg base (n + 1) (He.fAd K p.d.at_) fd p.ps (spF K (callN (bdsOf Pl C W fu) n) id p.ps.length)
  | 0, id, p, fd, hp, Fd => ⟨fun vs H Q h => h.1, fun A outer s H args us vs Q hg hr e0 hb r h => by
      obtain ⟨_, ξ, ρ, st, ds, _, _, h⟩ := h
      exact h.elim⟩
  | n + 1, id, p, fd, hp, Fd => by
    obtain ⟨oc, od, dV, kV, doc, pm, an, cdv, ct, osl, rfl, lk, hcd, hD, hK⟩ := Fd.ex
    have S := T.sc p (List.mem_of_getElem? hp)
    refine Fg.body lk hcd S (fun vs H Q h => h.1) fun A outer s H vs Q hg hr h => ⟨_, pss_rs, ?_⟩
    obtain ⟨hl, ξ, ρ, st, ds, r, hh, h⟩ := h
    have hdl : ds.length = p.ps.length := by rw [← r.length]; exact hl
    let X : Cx := (cxOf CX0 P w K mg base p.N p.d.qual p.d.scope (He.fAd K p.d.at_) cdv A outer s H E0).nox
    have gd : Gd X p.ci := ⟨rfl, rfl, rfl, S.nd, fun _ _ => .inl rfl, rfl⟩
    have wd : Wd X C.G (callN (bdsOf Pl C W fu) n) :=
      { gq := gq_deeper hg _
        room := hr.mono (by omega)
        fs := fun e he => by
          obtain ⟨q, q1, q2, q3, q4⟩ := T.fs e he
          obtain ⟨fd2, F2⟩ := T.df _ _ q1
          exact ⟨⟨He.fAd K q.d.at_, fd2, q.ps, n + 1, q2, F2.kp, hr, fg_all T n e.id q fd2 q1 F2, q3, fun s us ws X h1 h2 => q4 K _ fd2 F2 s us ws X h1 h2⟩⟩
        bl := T.bl
        cs := T.cs
        gcd := T.gcd
        tb := T.tb }
    have body := (sx_all (W := W) wd gd fu).2 p.d.body
    have h' : (runB p.ps.length p.N.length (cSs C (callN (bdsOf Pl C W fu) n) W fu p.ci p.d.body) ds st).wp fun d st' => ∀ ρ' H' v, Xt ρ H ρ' H' → Hr ⟨K, ξ⟩ ρ' H' st' → Rp ⟨K, ξ⟩ ρ' H' v d → Q v H' := by
      have e : callN (bdsOf Pl C W fu) (n + 1) id ds st = runB p.ps.length p.N.length (cSs C (callN (bdsOf Pl C W fu) n) W fu p.ci p.d.body) ds st := by
        show runB (bdsOf Pl C W fu id _).1 (bdsOf Pl C W fu id _).2.1 (bdsOf Pl C W fu id _).2.2 ds st = _
        unfold bdsOf
        rw [hp]
      rw [← e]
      exact h
    unfold runB at h'
    rw [if_pos hdl] at h'
    have er : Er (X.kx ξ) ρ H (L2.start p.N vs) (ds.map some ++ List.replicate (p.N.length - p.ps.length) none) := by
      rw [← hdl]
      exact er_start r
    refine body ξ ρ H (L2.start p.N vs) _ st { nx := fun _ H' => Q .non H', rt := Q } er hh (R.wp_mono (R.wp_bd.mp h') fun f s1 w1 => ?_)
    cases f with
    | nx e => exact fun ρ1 H1 σ1 x1 h1 e1 => w1 ρ1 H1 .non x1 h1 .non
    | rt d => exact fun ρ1 H1 v x1 h1 r1 => w1 ρ1 H1 v x1 h1 r1
    | bk e => exact w1.elim
    | ct e => exact w1.elim
end
/-- the end -/
theorem Fg.walkE {l : PySem.W.OpenLaw} {n k : Nat} {q : Program} {loose : List Str} {XP : (Str → Option Value) → Heap → Prop} {YP : World → Heap → Prop} {d : DefRec} {x : Str}
    (hn : l.most = some n) (hn2 : n ≤ sizeLine) (hdf : d.params.defaults = []) (hr : Room k callerA)
    (F : ∀ (w : World) (mg : Str → Option Value) (fa : Addr) (h : Heap), YP w h → h.Ns mainGlobals mg → mg d.name = some (.ref fa) →
      ∃ (K : PySem.W.Frag) (fd : FuncData) (sp : List V → Hp → VK → Prop), K.In h ∧ (∀ (s : Shared) (u : Value), BindsTo s fd ⟨[u], []⟩ [(x, u)]) ∧
        (∀ (H : Hp) (a : Addr) (ns : List Int), ns.length ≤ n → Only H → SqL K H a (ns.map V.int) → sp [.ref a] H (fun v _ => v = .bl true)) ∧
        ∀ base : Heap, K.In base → base.Ns mainGlobals mg → Fg l.prog w K mg base k fa fd [x] sp) :
    PySem.W.WalkO q loose XP YP l.row.toRowW d [] (fun f vs => PySem.call f vs) := by
  refine Att.attach_call hn hdf fun w s₀ s₁ mg mb fa o pm cd doc a vs ns G Y ho hd hcd hmg hobj hints hlen hg => ?_
  obtain ⟨K, fd, sp, KX, hb, hsp, hF⟩ := F w mg fa _ Y G.T.g hmg
  exact Fg.law KX G.T.g G.T.b G.T.builtins G.T.nolimit hg hobj hints (Nat.le_trans hlen hn2) hr hF hb (fun H hO hS => hsp H a ns hlen hO hS)
/-- the law's def upon a script -/
theorem sp_law {K : PySem.W.Frag} {F : Fn} {id : Nat} {H : Hp} {a : Addr} {ns : List Int} (hz : ns.length ≤ sizeLine) (hS : SqL K H a (ns.map V.int)) (h : ∃ s, F id [.ro (ns.map .int)] [] = .ok (.bl true) s) : spF K F id 1 [.ref a] H (fun v _ => v = .bl true) := by
  have r : Rps ⟨K, []⟩ [] H (ns.map V.int) (ns.map D.int) := by
    clear hz hS h
    induction ns with
    | nil => exact .nil
    | cons n ns ih => exact .cons (.int n) ih
  refine ⟨rfl, [], [], [], [.ro (ns.map .int)], .cons (.ro ?_ (by simpa using hz) r) .nil, ?_, ?_⟩
  · rcases hS with h | h
    · exact .inl ⟨⟨nofun, nofun⟩, h⟩
    · exact .inr h
  · exact ⟨rfl, .nil, nofun, nofun, fun n a o h => by cases h⟩
  · obtain ⟨s, e⟩ := h
    rw [e]
    intro ρ' H' v _ _ rv
    cases rv
    rfl
/-! ### a default at the end -/
theorem bindQ1 {p : Pd} {e : Fi} {i : Int} (hd : p.d.dfl = [.int i]) (hk : e.kw = []) (hn : e.np + 1 = p.ps.length) (ha : e.arr = (List.range e.np).map Src.at ++ [.int i])
    (h : ∀ (T : Addr) (kV doc pm : Value) (an : Option Addr) (cdv ct : Value) (us its : List Value), us.length = e.np → its.length = 1 →
      ∃ k, bindArgs (PySem.W.fnOf p.d.name p.d.qual p.d.params p.d.body p.d.scope (.ref T) kV doc pm an cdv ct) ⟨us, []⟩ = seqItems? (.ref T) >>= k ∧ k (some its.toArray) = pure (p.ps.zip (us ++ its.drop 0))) : BindQ p e := by
  intro K f fd Fd s us ws X h1 h2
  have e0 : p.d.dvs K = [V.int i] := by unfold He.DefD.dvs; rw [hd]; rfl
  obtain ⟨ds, r, b⟩ := FunD.binds1 (ps := p.ps) Fd e.np 0 (by rw [e0]; exact nofun) (by rw [e0]; exact hn) (fun T kV doc pm an cdv ct us its q1 q2 => h T kV doc pm an cdv ct us its q1 (by rw [q2, e0]; rfl))
  rw [e0] at r
  have hw : ws = [] := by
    rw [hk] at h2
    exact List.length_eq_zero_iff.mp h2
  subst hw
  cases r with
  | cons r1 r2 =>
    cases r2
    rename_i z
    obtain ⟨t, rfl⟩ : ∃ t, z = .int i t := r1
    refine ⟨us ++ [.int i t], ?_, ?_⟩
    · rw [hk]
      exact b s us X (by simp; omega)
    · rw [ha, List.append_nil]
      have pa : ∀ (m : Nat) (vs : List Value), m + vs.length = us.length → us.drop m = vs → Paired (fun (a : Src) (z : Value) => match a with | .at i => us[i]? = some z | .int i => ∃ t, z = .int i t) (((List.range' m vs.length).map Src.at) ++ [.int i]) (vs ++ [.int i t]) := by
        intro m vs
        induction vs generalizing m with
        | nil => intro _ _; exact .cons ⟨t, rfl⟩ .nil
        | cons v vs ih =>
          intro hl hd
          refine .cons ?_ (ih (m + 1) (by simp at hl ⊢; omega) ?_)
          · show us[m]? = some v
            have : (us.drop m)[0]? = some v := by rw [hd]; rfl
            simpa using this
          · have : (us.drop m).drop 1 = vs := by rw [hd]; rfl
            simpa [List.drop_drop] using this
      have := pa 0 us (by omega) rfl
      rw [List.range_eq_range', ← h1]
      exact this
/-- all given, though there is a default -/
theorem bindQD {p : Pd} {e : Fi} {i : Int} (hd : p.d.dfl = [.int i])
    (h : ∀ (T : Addr) (kV doc pm : Value) (an : Option Addr) (cdv ct : Value) (us ws its : List Value), us.length = e.np → ws.length = e.kw.length → its.length = 1 →
      ∃ zs k, bindArgs (PySem.W.fnOf p.d.name p.d.qual p.d.params p.d.body p.d.scope (.ref T) kV doc pm an cdv ct) ⟨us, e.kw.zip ws⟩ = seqItems? (.ref T) >>= k ∧ k (some its.toArray) = pure (p.ps.zip zs) ∧
        Paired (fun (a : Src) (z : Value) => match a with | .at i => (us ++ ws)[i]? = some z | .int i => ∃ t, z = .int i t) e.arr zs) : BindQ p e := by
  intro K f fd Fd s us ws X h1 h2
  have e0 : p.d.dvs K = [V.int i] := by unfold He.DefD.dvs; rw [hd]; rfl
  obtain ⟨oc, od, dV, kV, doc, pm, an, cdv, ct, osl, rfl, lk, hcd, hD, hK⟩ := Fd.ex
  rw [e0] at hD
  rcases hD with ⟨q, _⟩ | ⟨_, T, o, its, m, rfl, lT, oT, rT⟩
  · exact absurd q nofun
  · obtain ⟨zs, k, q1, q2, q3⟩ := h T kV doc pm an cdv ct us ws its h1 h2 rT.length.symm
    refine ⟨zs, BindsTo.of_looks fun M => ?_, q3⟩
    rw [q1]
    exact looks_items X lT oT (.of_pure q2)
/-! ### constants of any form, built-ins of another module -/
def vOf : Value → V
  | .none => .non
  | .bool b => .bl b
  | .int i _ => .int i
  | .str x _ => .str x
  | .ref a => .ref a
  | _ => .non
mutual
def cvB (K : PySem.W.Frag) (u : Value) : D → Bool
  | .non => match u with
    | .none => true
    | _ => false
  | .bl b => match u with
    | .bool c => decide (b = c)
    | _ => false
  | .int i => match u with
    | .int j _ => decide (i = j)
    | _ => false
  | .str x => match u with
    | .str y _ => decide (x = y)
    | _ => false
  | .tup ds => match u with
    | .ref a => match K.lookup a with
      | some ⟨.type c, _, .seq its _, _⟩ => decide (c = "tuple") && decide (its.size ≤ sizeLine) && cvBs K its.toList ds
      | _ => false
    | _ => false
  | .ro ds => match u with
    | .ref a => match K.lookup a with
      | some ⟨.type c, none, .seq its _, _⟩ => decide (c = "list") && decide (its.size ≤ sizeLine) && cvBs K its.toList ds
      | _ => false
    | _ => false
  | _ => false
def cvBs (K : PySem.W.Frag) (us : List Value) : List D → Bool
  | [] => us.isEmpty
  | d :: ds => match us with
    | u :: us => cvB K u d && cvBs K us ds
    | [] => false
end
mutual
theorem cvB_ok {K : PySem.W.Frag} : ∀ (d : D) (u : Value), cvB K u d = true → RelV (vOf u) u ∧ ∀ ξ ρ H, Rp ⟨K, ξ⟩ ρ H (vOf u) d
  | .non, u, h => by
    unfold cvB at h
    split at h
    · exact ⟨rfl, fun _ _ _ => .non⟩
    · cases h
  | .bl b, u, h => by
    unfold cvB at h
    split at h
    · rw [of_decide_eq_true h]
      exact ⟨rfl, fun _ _ _ => .bl _⟩
    · cases h
  | .int i, u, h => by
    unfold cvB at h
    split at h
    · rw [of_decide_eq_true h]
      exact ⟨⟨_, rfl⟩, fun _ _ _ => .int _⟩
    · cases h
  | .str x, u, h => by
    unfold cvB at h
    split at h
    · rw [of_decide_eq_true h]
      exact ⟨⟨_, rfl⟩, fun _ _ _ => .str _⟩
    · cases h
  | .tup ds, u, h => by
    unfold cvB at h
    split at h
    · rename_i a
      split at h
      · rename_i c dd its n sl e
        rw [Bool.and_eq_true, Bool.and_eq_true, decide_eq_true_eq, decide_eq_true_eq] at h
        obtain ⟨⟨rfl, hz⟩, h⟩ := h
        obtain ⟨xs, r, q⟩ := cvBs_ok ds _ h
        have hl : xs.length ≤ sizeLine := by rw [r.length, Array.length_toList]; exact hz
        exact ⟨rfl, fun ξ ρ H => .tup (.inr ⟨_, its, n, e, rfl, rfl, hz, r⟩) hl (q ξ ρ H)⟩
      · cases h
    · cases h
  | .ro ds, u, h => by
    unfold cvB at h
    split at h
    · rename_i a
      split at h
      · rename_i c its n sl e
        rw [Bool.and_eq_true, Bool.and_eq_true, decide_eq_true_eq, decide_eq_true_eq] at h
        obtain ⟨⟨rfl, hz⟩, h⟩ := h
        obtain ⟨xs, r, q⟩ := cvBs_ok ds _ h
        have hl : xs.length ≤ sizeLine := by rw [r.length, Array.length_toList]; exact hz
        exact ⟨rfl, fun ξ ρ H => .ro (.inr ⟨_, its, n, e, rfl, rfl, rfl, hz, r⟩) hl (q ξ ρ H)⟩
      · cases h
    · cases h
  | .lst _, u, h => by unfold cvB at h; cases h
  | .dct _, u, h => by unfold cvB at h; cases h
  | .ref _, u, h => by unfold cvB at h; cases h
  | .fn _, u, h => by unfold cvB at h; cases h
  | .err _ _, u, h => by unfold cvB at h; cases h
theorem cvBs_ok {K : PySem.W.Frag} : ∀ (ds : List D) (us : List Value), cvBs K us ds = true → ∃ xs, Vals xs us ∧ ∀ ξ ρ H, Rps ⟨K, ξ⟩ ρ H xs ds
  | [], us, h => by
    unfold cvBs at h
    cases us with
    | nil => exact ⟨[], .nil, fun _ _ _ => .nil⟩
    | cons => cases h
  | d :: ds, us, h => by
    unfold cvBs at h
    cases us with
    | nil => cases h
    | cons u us =>
      have h' : (cvB K u d && cvBs K us ds) = true := h
      rw [Bool.and_eq_true] at h'
      obtain ⟨q1, q2⟩ := cvB_ok d u h'.1
      obtain ⟨xs, q3, q4⟩ := cvBs_ok ds us h'.2
      exact ⟨_, .cons q1 q3, fun ξ ρ H => .cons (q2 ξ ρ H) (q4 ξ ρ H)⟩
end
def cstB (K : PySem.W.Frag) (z : Str × D) : Bool := match PySem.W.nsIn K mainGlobals z.1 with
  | some (some u) => cvB K u z.2
  | _ => false
theorem cstB_ok {K : PySem.W.Frag} {h : Heap} {mg : Str → Option Value} (X : K.In h) (G : h.Ns mainGlobals mg) {z : Str × D} (c : cstB K z = true) : ∃ u v, mg z.1 = some u ∧ RelV v u ∧ ∀ ξ ρ H, Rp ⟨K, ξ⟩ ρ H v z.2 := by
  unfold cstB at c
  split at c
  · rename_i u e
    obtain ⟨q1, q2⟩ := cvB_ok _ _ c
    exact ⟨u, vOf u, PySem.W.mg_of X G e, q1, q2⟩
  · cases c
def bltB (K : PySem.W.Frag) (x : Str) (id : String) : Bool := match PySem.W.nsIn K mainGlobals x with
  | some (some (.builtin j)) => decide (j = id)
  | _ => false
theorem bltB_ok {K : PySem.W.Frag} {h : Heap} {mg : Str → Option Value} (X : K.In h) (G : h.Ns mainGlobals mg) {x : Str} {id : String} (c : bltB K x id = true) : mg x = some (.builtin id) := by
  unfold bltB at c
  split at c
  · rename_i j e
    rw [← of_decide_eq_true c]
    exact PySem.W.mg_of X G e
  · cases c
/-- a table's keys with their hashes, its values -/
def tabO (K : PySem.W.Frag) (x : Str) : Option (List (Option (Str × Int))) := match PySem.W.nsIn K mainGlobals x with
  | some (some (.ref a)) => He.dicW K a
  | _ => none
def tabV (K : PySem.W.Frag) (t : Str × List (Str × D)) : Bool := match PySem.W.nsIn K mainGlobals t.1 with
  | some (some (.ref a)) => t.2.all fun q => match PySem.W.nsIn K a q.1 with
    | some (some u) => cvB K u q.2
    | _ => false
  | _ => false
theorem lk_of_mem : ∀ {l : List (Str × D)} {x : Str}, l.lookup x = none → ∀ p ∈ l, p.1 ≠ x
  | [], _, _, _, h => by cases h
  | (y, e) :: r, x, h, p, hp => by
    rw [List.lookup_cons] at h
    by_cases q : x = y
    · subst q
      rw [beq_self_eq_true] at h
      cases h
    · have q' : (x == y) = false := by
        cases z : (x == y) with
        | false => rfl
        | true => exact absurd (eq_of_beq z) q
      rw [q'] at h
      rcases List.mem_cons.mp hp with rfl | hp
      · exact fun z => q z.symm
      · exact lk_of_mem h p hp
theorem keys_none {K : PySem.W.Frag} {P : Params} {a : Addr} {es : Array DictEntry} {n : Nat} {ks : List Str} {x : Str} (hl : K.lookup a = some ⟨.type "dict", none, .dict es n, #[]⟩) (hk : es.toList.map He.keyOf = He.keysIn P ks) (hx : ∀ k ∈ ks, k ≠ x) : PySem.W.nsIn K a x = some none := by
  have no : ∀ (l : List DictEntry) (ks : List Str), l.map He.keyOf = He.keysIn P ks → (∀ k ∈ ks, k ≠ x) → l.find? (·.key.isStr x) = none ∧ l.any (·.refKey) = false := by
    intro l
    induction l with
    | nil => intro _ _ _; exact ⟨rfl, rfl⟩
    | cons e r ih =>
      intro ks h hx
      cases ks with
      | nil => cases h
      | cons k ks =>
        have h1 : He.keyOf e :: r.map He.keyOf = some (k, PyData.keyHash P k) :: He.keysIn P ks := h
        injection h1 with h2 h3
        obtain ⟨q1, q2⟩ := ih ks h3 fun k hk => hx k (.tail _ hk)
        unfold He.keyOf at h2
        split at h2
        · rename_i y t e1
          have h4 := (Prod.mk.inj (Option.some.inj h2)).1
          have hn := hx k (.head _)
          constructor
          · rw [List.find?_cons, e1]
            have : (Value.str y t).isStr x = false := by
              simp only [Value.isStr]
              exact beq_eq_false_iff_ne.mpr fun z => hn (by rw [← h4]; exact z)
            rw [this]
            exact q1
          · rw [List.any_cons, q2]
            have : e.refKey = false := by unfold DictEntry.refKey; rw [e1]
            rw [this]
            rfl
        · cases h2
  obtain ⟨q1, q2⟩ := no _ _ hk hx
  unfold PySem.W.nsIn
  rw [hl]
  dsimp only
  rw [q1]
  dsimp only
  rw [q2]
  rfl
theorem tab_ok {K : PySem.W.Frag} {w : World} {h : Heap} {mg : Str → Option Value} (X : K.In h) (G : h.Ns mainGlobals mg) {t : Str × List (Str × D)} (c1 : tabO K t.1 = some (He.keysIn w.params (t.2.map (·.1)))) (c2 : tabV K t = true) : ∃ a, mg t.1 = some (.ref a) ∧ TbK K w a t.2 := by
  unfold tabO at c1
  unfold tabV at c2
  split at c1
  · rename_i a e
    rw [e] at c2
    dsimp only at c2
    refine ⟨a, PySem.W.mg_of X G e, ?_⟩
    obtain ⟨es, n, hl, hk, lo⟩ := He.dicW_ok c1
    refine ⟨es, n, hl, hk, lo, fun x => ⟨fun d hd => ?_, fun hd => ?_⟩⟩
    · have hm := mem_of_lk hd
      have q := List.all_eq_true.mp c2 _ hm
      dsimp only at q
      split at q
      · rename_i u e2
        obtain ⟨q1, q2⟩ := cvB_ok _ _ q
        exact ⟨u, _, e2, q1, q2⟩
      · cases q
    · refine keys_none (P := w.params) (ks := t.2.map (·.1)) hl ?_ fun k hk => ?_
      · unfold He.dicW at c1
        rw [hl] at c1
        dsimp only at c1
        split at c1
        · exact Option.some.inj c1
        · cases c1
      · obtain ⟨p, hp, rfl⟩ := List.mem_map.mp hk
        exact lk_of_mem hd p hp
  · cases c1
/-- all that a law wants of its names beside the defs -/
def exB (G : Gi) (K : PySem.W.Frag) : Bool := (G.cs.all fun z => cstB K z) && ((!G.gcd || bltB K "gcd" "math.gcd") && G.ts.all (tabV K))
abbrev ObX : Type := He.AlD × Bool × List (Option (List (Option (Str × Int))))
def obK (fa : List He.Fa) (fn : List He.DefD) (G : Gi) (K : PySem.W.Frag) : ObX := (He.obsD fa fn K, exB G K, G.ts.map fun t => tabO K t.1)
def vlK (fn : List He.DefD) (G : Gi) (w : World) : ObX := (He.valD fn, true, G.ts.map fun t => some (He.keysIn w.params (t.2.map (·.1))))
/-- the head's Hook with these -/
def hookX (n : Nat) (fa : List He.Fa) (fn : List He.DefD) (G : Gi) : PySem.W.Hook where
  α := ObX
  obs := fun s => obK fa fn G (He.frG s.heap.get? (He.asD s.heap.get? n))
  val := fun w => vlK fn G w
  says := fun w h => ∃ K : PySem.W.Frag, K.In h ∧ He.SaysD fa fn K ∧ exB G K = true ∧ ∀ t ∈ G.ts, tabO K t.1 = some (He.keysIn w.params (t.2.map (·.1)))
  of := fun _ _ e => ⟨_, He.frG_in, congrArg Prod.fst e, congrArg (fun z : ObX => z.2.1) e, fun t ht => by
    have q := congrArg (fun z : ObX => z.2.2) e
    exact List.map_inj_left.mp q t ht⟩
  keeps := fun _ _ _ ⟨K, hK, c⟩ k => ⟨K, PySem.W.Frag.In.keeps hK k, c⟩
def obsX (n : Nat) (fa : List He.Fa) (fn : List He.DefD) (G : Gi) (g : Addr → Option Obj) : ObX := obK fa fn G (He.frG g (He.asD g n))
theorem obsX_eq {n : Nat} {fa : List He.Fa} {fn : List He.DefD} {G : Gi} {g : Addr → Option Obj} {s : Shared} (h : ∀ a, g a = s.heap.get? a) : obsX n fa fn G g = (hookX n fa fn G).obs s := by
  have e : g = s.heap.get? := funext h
  rw [e] <;> rfl
end Rf
set_option maxHeartbeats 4000000
namespace Rf
open PySem PySem.Spec L2
open PyProof.Rows hiding St
/-! ## rules to read a meaning by simp: side conditions are left to omega -/
section
variable {α β : Type} {env : Ev} {st s : Sto}
@[simp] theorem wp_bd' {r : R α} {f : α → Sto → R β} {Q : β → Sto → Prop} : (r.bd f).wp Q = r.wp (fun a s => (f a s).wp Q) := propext R.wp_bd
@[simp] theorem wp_ok' {a : α} {Q : α → Sto → Prop} : (R.ok a s).wp Q = Q a s := _root_.id rfl
@[simp] theorem wp_bad' {Q : α → Sto → Prop} : (R.bad : R α).wp Q = False := _root_.id rfl
@[simp] theorem x_cst (d : D) : mCst d env st = .ok d st := _root_.id rfl
@[simp] theorem x_var0 (d : D) (e : Ev) : mVar 0 (some d :: e) st = .ok d st := _root_.id rfl
@[simp] theorem x_varS (i : Nat) (x : Option D) (e : Ev) : mVar (i + 1) (x :: e) st = mVar i e st := _root_.id rfl
@[simp] theorem x_op2 (f : Op2) (a b : ME) : mOp2 f a b env st = (a env st).bd fun x s => (b env s).bd fun y s' => f x y s' := _root_.id rfl
@[simp] theorem x_op1 (f : Op1) (a : ME) : mOp1 f a env st = (a env st).bd fun x s => f x s := _root_.id rfl
@[simp] theorem x_opN (f : List D → Sto → R D) (a : MA) : mOpN f a env st = (a env st).bd fun xs s => f xs s := _root_.id rfl
@[simp] theorem x_nil : mNil env st = .ok [] st := _root_.id rfl
@[simp] theorem x_cons (a : ME) (r : MA) : mCons a r env st = (a env st).bd fun x s => (r env s).bd fun xs s' => .ok (x :: xs) s' := _root_.id rfl
@[simp] theorem x_if (c : MT) (a b : ME) : mIf c a b env st = (c env st).bd fun k s => if k then a env s else b env s := _root_.id rfl
@[simp] theorem x_notT (a : MT) : mNotT a env st = (a env st).bd fun k s => .ok (!k) s := _root_.id rfl
@[simp] theorem x_andT (a b : MT) : mAndT a b env st = (a env st).bd fun k s => if k then b env s else .ok false s := _root_.id rfl
@[simp] theorem x_orT (a b : MT) : mOrT a b env st = (a env st).bd fun k s => if k then .ok true s else b env s := _root_.id rfl
@[simp] theorem x_andV (a b : ME) : mAndV a b env st = (a env st).bd fun x s => match x with
  | .bl true => b env s
  | .bl false => .ok (.bl false) s
  | _ => .bad := _root_.id rfl
@[simp] theorem x_orV (a b : ME) : mOrV a b env st = (a env st).bd fun x s => match x with
  | .bl false => b env s
  | .bl true => .ok (.bl true) s
  | _ => .bad := _root_.id rfl
@[simp] theorem x_notV (a : ME) : mNotV a env st = (a env st).bd fun x s => match x with
  | .bl k => .ok (.bl (!k)) s
  | _ => .bad := _root_.id rfl
@[simp] theorem x_test (a : ME) : mTest a env st = (a env st).bd fun x s => match truD x s with
  | some k => .ok k s
  | none => .bad := _root_.id rfl
@[simp] theorem t_bl (k : Bool) : truD (.bl k) s = some k := _root_.id rfl
@[simp] theorem t_int (i : Int) : truD (.int i) s = some (i != 0) := _root_.id rfl
@[simp] theorem t_non : truD .non s = some false := _root_.id rfl
@[simp] theorem t_lst (ds : List D) : truD (.lst ds) s = some (!ds.isEmpty) := _root_.id rfl
@[simp] theorem t_tup (ds : List D) : truD (.tup ds) s = some (!ds.isEmpty) := _root_.id rfl
@[simp] theorem x_call (F : Fn) (id : Nat) (arr : List Src) (ma : MA) : mCall F id arr ma env st = (ma env st).bd fun ds s => F id (arr.map (Src.get ds)) s := _root_.id rfl
@[simp] theorem x_callK (F : Fn) (id : Nat) (arr : List Src) (ma mk : MA) : mCallK F id arr ma mk env st = (ma env st).bd fun ds s => (mk env s).bd fun ks s' => F id (arr.map (Src.get (ds ++ ks))) s' := _root_.id rfl
@[simp] theorem g_at0 (d : D) (ds : List D) : Src.get (d :: ds) (.at 0) = d := _root_.id rfl
@[simp] theorem g_atS (d : D) (ds : List D) (i : Nat) : Src.get (d :: ds) (.at (i + 1)) = Src.get ds (.at i) := _root_.id rfl
@[simp] theorem g_int (ds : List D) (i : Int) : Src.get ds (.int i) = .int i := _root_.id rfl
@[simp] theorem x_pass : mPass env st = .ok (.nx env) st := _root_.id rfl
@[simp] theorem x_brk : mBrk env st = .ok (.bk env) st := _root_.id rfl
@[simp] theorem x_cnt : mCnt env st = .ok (.ct env) st := _root_.id rfl
@[simp] theorem x_bad : mBad env st = .bad := _root_.id rfl
@[simp] theorem x_exp (a : ME) : mExp a env st = (a env st).bd fun _ s => .ok (.nx env) s := _root_.id rfl
@[simp] theorem x_ret (a : ME) : mRet a env st = (a env st).bd fun d s => .ok (.rt d) s := _root_.id rfl
@[simp] theorem x_retN : mRetN env st = .ok (.rt .non) st := _root_.id rfl
@[simp] theorem x_asg (g : MG) (a : ME) : mAsg g a env st = (a env st).bd fun d s => (g d env s).bd fun e s' => .ok (.nx e) s' := _root_.id rfl
@[simp] theorem x_seq (a b : MS) : mSeq a b env st = (a env st).bd fun f s => match f with
  | .nx e => b e s
  | f => .ok f s := _root_.id rfl
@[simp] theorem x_ifS (c : MT) (a b : MS) : mIfS c a b env st = (c env st).bd fun k s => if k then a env s else b env s := _root_.id rfl
@[simp] theorem x_par (i j : Nat) (ma : MA) : mPar i j ma env st = (ma env st).bd fun ds s => match ds with
  | [x, y] => .ok (.nx ((env.set i (some x)).set j (some y))) s
  | _ => .bad := _root_.id rfl
@[simp] theorem x_par3 (i j l : Nat) (ma : MA) : mPar3 i j l ma env st = (ma env st).bd fun ds s => match ds with
  | [x, y, z] => .ok (.nx (((env.set i (some x)).set j (some y)).set l (some z))) s
  | _ => .bad := _root_.id rfl
@[simp] theorem x_gNm (i : Nat) (d : D) : gNm i d env st = .ok (env.set i (some d)) st := _root_.id rfl
@[simp] theorem x_gNil : gNil [] env st = .ok env st := _root_.id rfl
@[simp] theorem x_gCons (m : MG) (r : MGs) (d : D) (ds : List D) : gCons m r (d :: ds) env st = (m d env st).bd fun e s => r ds e s := _root_.id rfl
@[simp] theorem x_gTp (n : Nat) (ms : MGs) (ds : List D) (h : ds.length = n) : gTp n ms (.tup ds) env st = ms ds env st := if_pos h
@[simp] theorem x_gSub (o i : ME) (d : D) : gSub o i d env st = (o env st).bd fun x s => (i env s).bd fun y s2 => match setIx x y d s2 with
  | some s3 => .ok env s3
  | none => .bad := _root_.id rfl
@[simp] theorem x_for (g : MG) (it : MI) (b : MS) : mFor g it b env st = (it env st).bd fun p s => forL g b p.2 p.1 p.1 env s := _root_.id rfl
@[simp] theorem x_whl (n : Nat) (c : MT) (b : MS) : mWhl n c b env st = whl c b n env st := _root_.id rfl
@[simp] theorem x_it (a : ME) : mIt a env st = (a env st).bd fun x s => match itemsD x s with
  | some p => .ok p s
  | none => .bad := _root_.id rfl
@[simp] theorem i_lst (ds : List D) : itemsD (.lst ds) s = some (ds, none) := _root_.id rfl
@[simp] theorem i_tup (ds : List D) : itemsD (.tup ds) s = some (ds, none) := _root_.id rfl
@[simp] theorem i_ro (ds : List D) : itemsD (.ro ds) s = some (ds, none) := _root_.id rfl
@[simp] theorem x_rg (ma : MA) : mRg ma env st = (ma env st).bd fun xs s => match xs with
  | [.int b] => if rgB 0 b then .ok (rgI 0 b, none) s else .bad
  | [.int a, .int b] => if rgB a b then .ok (rgI a b, none) s else .bad
  | _ => .bad := _root_.id rfl
@[simp] theorem rgB_yes (a b : Int) (h1 : -(2 ^ 62) ≤ a) (h2 : b < 2 ^ 62) (h3 : a ≤ 2 ^ 61) (h4 : -(2 ^ 62) ≤ b) (h5 : b - a ≤ 16777216) : rgB a b = true := by
  unfold rgB
  simp only [Bool.and_eq_true, decide_eq_true_eq]
  omega
theorem mulB_of (i j : Int) (h1 : -(10 ^ 300) ≤ i) (h2 : i ≤ 10 ^ 300) (h3 : -(10 ^ 300) ≤ j) (h4 : j ≤ 10 ^ 300) : mulB i j = true := by
  have lg : ∀ k : Int, -(10 ^ 300) ≤ k → k ≤ 10 ^ 300 → k.natAbs.log2 ≤ 1200 := fun k a b => by
    have h : k.natAbs < 2 ^ 1200 := by
      have h0 : k.natAbs ≤ 10 ^ 300 := by omega
      exact Nat.lt_of_le_of_lt h0 (by decide +kernel)
    by_cases e : k.natAbs = 0
    · rw [e]; decide
    · exact Nat.le_of_lt ((Nat.log2_lt e).mpr h)
  unfold mulB
  have a := lg i h1 h2
  have b := lg j h3 h4
  exact decide_eq_true (by omega)
@[simp] theorem o_mul (m : Bool) (i j : Int) (h1 : -(10 ^ 300) ≤ i) (h2 : i ≤ 10 ^ 300) (h3 : -(10 ^ 300) ≤ j) (h4 : j ≤ 10 ^ 300) : opMul m (.int i) (.int j) s = .ok (.int (i * j)) s := if_pos (mulB_of i j h1 h2 h3 h4)
@[simp] theorem o_add (m : Bool) (i j : Int) : opAdd m (.int i) (.int j) s = .ok (.int (i + j)) s := _root_.id rfl
@[simp] theorem o_sub (i j : Int) : opSub (.int i) (.int j) s = .ok (.int (i - j)) s := _root_.id rfl
@[simp] theorem o_cmp (g : Int → Int → Bool) (i j : Int) : opCmp g (.int i) (.int j) s = .ok (.bl (g i j)) s := _root_.id rfl
@[simp] theorem o_neg (i : Int) : opNeg (.int i) s = .ok (.int (-i)) s := _root_.id rfl
theorem divB_of (i j : Int) (h : 0 < j) (h2 : j ≤ 10 ^ 300) : divB i j = true := by
  unfold divB
  have h3 : j.natAbs.log2 < 9000 := by
    have h : j.natAbs < 2 ^ 1200 := by
      have h0 : j.natAbs ≤ 10 ^ 300 := by omega
      exact Nat.lt_of_le_of_lt h0 (by decide +kernel)
    exact Nat.lt_trans ((Nat.log2_lt (by omega)).mpr h) (by decide)
  simp only [Bool.and_eq_true, decide_eq_true_eq]
  exact ⟨by omega, h3⟩
theorem fdiv_pos {i j : Int} (h : 0 < j) : i.fdiv j = i / j := Int.fdiv_eq_ediv_of_nonneg i (Int.le_of_lt h)
theorem fmod_pos {i j : Int} (h : 0 < j) : i.fmod j = i % j := Int.fmod_eq_emod_of_nonneg i (Int.le_of_lt h)
@[simp] theorem o_div (i j : Int) (h : 0 < j) (h2 : j ≤ 10 ^ 300) : opDiv (.int i) (.int j) s = .ok (.int (i / j)) s := by
  show (if divB i j = true then R.ok (D.int (i.fdiv j)) s else .bad) = _
  rw [if_pos (divB_of i j h h2), fdiv_pos h]
@[simp] theorem o_mod (i j : Int) (h : 0 < j) : opMod (.int i) (.int j) s = .ok (.int (i % j)) s := by
  show (if modB i j = true then R.ok (D.int (i.fmod j)) s else .bad) = _
  rw [if_pos (show modB i j = true from decide_eq_true (by omega)), fmod_pos h]
@[simp] theorem o_dm (i j : Int) (h : 0 < j) (h2 : j ≤ 10 ^ 300) : opDm [.int i, .int j] s = .ok (.tup [.int (i / j), .int (i % j)]) s := by
  show (if divB i j = true then R.ok (D.tup [.int (i.fdiv j), .int (i.fmod j)]) s else .bad) = _
  rw [if_pos (divB_of i j h h2), fdiv_pos h, fmod_pos h]
@[simp] theorem o_pow (i j : Int) (h1 : 0 ≤ j) (h2 : j ≤ 1000000) (h3 : -18446744073709551616 < i) (h4 : i < 18446744073709551616) : opPow (.int i) (.int j) s = .ok (.int (i ^ j.toNat)) s := by
  show (if powB i j = true then R.ok (D.int (i ^ j.toNat)) s else .bad) = _
  rw [if_pos]
  unfold powB
  simp only [Bool.and_eq_true, decide_eq_true_eq]
  omega
@[simp] theorem o_shl (i j : Int) (h1 : 0 ≤ j) (h2 : j ≤ 1000000) (h3 : -18446744073709551616 < i) (h4 : i < 18446744073709551616) : opShl (.int i) (.int j) s = .ok (.int (i * 2 ^ j.toNat)) s := by
  show (if powB i j = true then R.ok (D.int (i * 2 ^ j.toNat)) s else .bad) = _
  rw [if_pos]
  unfold powB
  simp only [Bool.and_eq_true, decide_eq_true_eq]
  omega
@[simp] theorem o_tup (ds : List D) (h : ds.length ≤ 1000) : opTup ds s = .ok (.tup ds) s := if_pos h
@[simp] theorem o_lstF (ds : List D) (h : ds.length ≤ 1000) : opLst false ds s = .ok (.lst ds) s := if_pos h
@[simp] theorem o_lstT (ds : List D) (h : ds.length ≤ 1000) : opLst true ds s = .ok (.ref s.length) (s ++ [.lst ds]) := if_pos h
@[simp] theorem n_f (ds : List D) : newL false ds s = .ok (.lst ds) s := _root_.id rfl
@[simp] theorem n_t (ds : List D) : newL true ds s = .ok (.ref s.length) (s ++ [.lst ds]) := _root_.id rfl
@[simp] theorem o_int (i : Int) : opInt [.int i] s = .ok (.int i) s := _root_.id rfl
@[simp] theorem o_intB (k : Bool) : opInt [.bl k] s = .ok (.int (if k then 1 else 0)) s := _root_.id rfl
@[simp] theorem o_abs (i : Int) : opAbs [.int i] s = .ok (.int (if i < 0 then -i else i)) s := _root_.id rfl
@[simp] theorem o_max (i j : Int) : opMax [.int i, .int j] s = .ok (.int (if j > i then j else i)) s := _root_.id rfl
@[simp] theorem o_min (i j : Int) : opMin [.int i, .int j] s = .ok (.int (if j < i then j else i)) s := _root_.id rfl
@[simp] theorem o_un1 (f : Op1) (x : D) : un1 f [x] s = f x s := _root_.id rfl
@[simp] theorem o_lenT (ds : List D) : opLen (.tup ds) s = .ok (.int ds.length) s := _root_.id rfl
@[simp] theorem o_lenL (ds : List D) : opLen (.lst ds) s = .ok (.int ds.length) s := _root_.id rfl
@[simp] theorem o_lenR (ds : List D) : opLen (.ro ds) s = .ok (.int ds.length) s := _root_.id rfl
theorem atI_nat {ds : List D} {i : Int} {d : D} (h0 : 0 ≤ i) (h : ds[i.toNat]? = some d) : atI ds i = some d := by
  unfold atI ixN
  have hl := (List.getElem?_eq_some_iff.mp h).1
  rw [if_pos h0, if_pos (by omega)]
  exact h
@[simp] theorem o_ixT (ds : List D) (i : Int) (h0 : 0 ≤ i) (h : i < ds.length) : opIx (.tup ds) (.int i) s = .ok (ds.getD i.toNat .non) s := by
  have e : atI ds i = some (ds.getD i.toNat .non) := atI_nat h0 (by rw [List.getD_eq_getElem?_getD, List.getElem?_eq_getElem (by omega)]; rfl)
  show (match atI ds i with | some d => R.ok d s | none => .bad) = _
  rw [e]
theorem o_ixR (ds : List D) (i : Int) (h0 : 0 ≤ i) (h : i < ds.length) : opIx (.ro ds) (.int i) s = .ok (ds.getD i.toNat .non) s := by
  have e : atI ds i = some (ds.getD i.toNat .non) := atI_nat h0 (by rw [List.getD_eq_getElem?_getD, List.getElem?_eq_getElem (by omega)]; rfl)
  show (match atI ds i with | some d => R.ok d s | none => .bad) = _
  rw [e]
theorem o_ixL (ds : List D) (i : Int) (h0 : 0 ≤ i) (h : i < ds.length) : opIx (.lst ds) (.int i) s = .ok (ds.getD i.toNat .non) s := by
  have e : atI ds i = some (ds.getD i.toNat .non) := atI_nat h0 (by rw [List.getD_eq_getElem?_getD, List.getElem?_eq_getElem (by omega)]; rfl)
  show (match atI ds i with | some d => R.ok d s | none => .bad) = _
  rw [e]
/-- a list of the store, read -/
theorem o_ixS {n : Nat} {ds : List D} {i : Int} (h : s[n]? = some (.lst ds)) (h0 : 0 ≤ i) (h1 : i < ds.length) : opIx (.ref n) (.int i) s = .ok (ds.getD i.toNat .non) s := by
  have e : atI ds i = some (ds.getD i.toNat .non) := atI_nat h0 (by rw [List.getD_eq_getElem?_getD, List.getElem?_eq_getElem (by omega)]; rfl)
  show (match (match s[n]? with | some (.lst ds) => some ds | _ => none) with | some ds => (match atI ds i with | some d => R.ok d s | none => .bad) | none => .bad) = _
  rw [h]
  show (match atI ds i with | some d => R.ok d s | none => .bad) = _
  rw [e]
theorem setIx_S {n : Nat} {ds : List D} {i : Int} {d : D} (h : s[n]? = some (.lst ds)) (h0 : 0 ≤ i) (hd : i < ds.length) : setIx (.ref n) (.int i) d s = some (s.set n (.lst (ds.set i.toNat d))) := by
  have e : ixN ds.length i = some i.toNat := by
    unfold ixN
    rw [if_pos h0, if_pos hd]
  show (match s[n]? with | some (.lst ds) => (match ixN ds.length i with | some j => some (s.set n (.lst (ds.set j d))) | none => none) | _ => none) = _
  rw [h]
  show (match ixN ds.length i with | some j => some (s.set n (.lst (ds.set j d))) | none => none) = _
  rw [e]
@[simp] theorem o_isi (t : Ty) (i : Int) : opIsi t (.int i) s = .ok (.bl (Ty.int.sub t)) s := _root_.id rfl
@[simp] theorem o_isiB (t : Ty) (i : Bool) : opIsi t (.bl i) s = .ok (.bl (Ty.bool.sub t)) s := _root_.id rfl
@[simp] theorem o_isiS (t : Ty) (i : Str) : opIsi t (.str i) s = .ok (.bl (Ty.str.sub t)) s := _root_.id rfl
@[simp] theorem o_isiT (t : Ty) (i : List D) : opIsi t (.tup i) s = .ok (.bl (Ty.tuple.sub t)) s := _root_.id rfl
@[simp] theorem o_isiL (t : Ty) (i : List D) : opIsi t (.lst i) s = .ok (.bl (Ty.list.sub t)) s := _root_.id rfl
@[simp] theorem o_isiN (t : Ty) : opIsi t .non s = .ok (.bl (Ty.none.sub t)) s := _root_.id rfl
@[simp] theorem x_chn (g g' : Int → Int → Bool) (a b c : ME) : mChn g g' a b c env st = (a env st).bd fun x s => (b env s).bd fun y s1 => match x, y with
  | .int i, .int j => if g i j then (c env s1).bd fun z s2 => match z with
      | .int k => .ok (.bl (g' j k)) s2
      | _ => .bad
    else .ok (.bl false) s1
  | _, _ => .bad := _root_.id rfl
theorem wp_true {r : R D} (h : r.wp fun d _ => d = .bl true) : ∃ s, r = .ok (.bl true) s := by
  cases r with
  | ok a s => exact ⟨s, by rw [show a = .bl true from h]⟩
  | ex => exact h.elim
  | bad => exact h.elim
/-- a for-loop over a fixed list: what holds before each turn -/
theorem for_wp {g : MG} {b : MS} {all : List D} (I : List D → Ev → Sto → Prop) {Q : Fl → Sto → Prop}
    (hs : ∀ d r env st, I (d :: r) env st → (g d env st).wp fun e s => (b e s).wp fun f s2 => match f with
      | .nx e2 => I r e2 s2
      | .ct e2 => I r e2 s2
      | .bk e2 => Q (.nx e2) s2
      | .rt d => Q (.rt d) s2)
    (he : ∀ env st, I [] env st → Q (.nx env) st) : ∀ (l : List D) (env : Ev) (st : Sto), I l env st → (forL g b none all l env st).wp Q
  | [], env, st, h => he env st h
  | d :: r, env, st, h => by
    show ((g d env st).bd fun e s => (b e s).bd fun f s2 => match f with
      | .nx e => forL g b none all r e s2
      | .ct e => forL g b none all r e s2
      | .bk e => .ok (.nx e) s2
      | .rt d => .ok (.rt d) s2).wp Q
    rw [wp_bd']
    refine R.wp_mono (hs d r env st h) fun e s h1 => ?_
    rw [wp_bd']
    refine R.wp_mono h1 fun f s2 h2 => ?_
    cases f with
    | nx e2 => exact for_wp I hs he r e2 s2 h2
    | ct e2 => exact for_wp I hs he r e2 s2 h2
    | bk e2 => exact h2
    | rt d => exact h2
end
end Rf
set_option maxHeartbeats 4000000
namespace Rf
open PySem PySem.Spec L2
open PyProof.Rows hiding St
/-! ## the urn that the laws draw from -/
/-- the urn at u has pulled at most k0 numbers -/
structure Urn (s : Sto) (u : Nat) (k0 : Int) : Prop where
  ex : ∃ a seed k : Int, s[u]? = some (.lst [.int a, .int seed, .int k]) ∧ 0 ≤ a ∧ 0 ≤ seed ∧ seed < 4294967296 ∧ 0 ≤ k ∧ k ≤ k0
theorem set_at {s : Sto} {u : Nat} {x : O} (h : s[u]? = some x) (y : O) : (s.set u y)[u]? = some y := by
  rw [List.getElem?_set_self (List.getElem?_eq_some_iff.mp h).1]
/-- only the urn has changed -/
def Kp (u : Nat) (s s' : Sto) : Prop := s'.length = s.length ∧ ∀ i, i ≠ u → s'[i]? = s[i]?
theorem Kp.refl (u : Nat) (s : Sto) : Kp u s s := ⟨rfl, fun _ _ => rfl⟩
theorem Kp.set (u : Nat) (s : Sto) (y : O) : Kp u s (s.set u y) := ⟨List.length_set, fun i h => List.getElem?_set_ne (Ne.symm h)⟩
theorem Kp.trans {u : Nat} {s s1 s2 : Sto} (h : Kp u s s1) (h' : Kp u s1 s2) : Kp u s s2 := ⟨h'.1.trans h.1, fun i n => (h'.2 i n).trans (h.2 i n)⟩
def mPull (c1 c2 c3 c4 c5 c6 c7 c8 : Int) : MS := (mSeq (mIfS (mTest (mOp2 (opCmp fun i j => decide (j < i)) (mOp2 opIx (mVar 0) (mCst (.int 0))) (mCst (.int 0))))
    (mSeq (mAsg (gTp 2 (gCons (gSub (mVar 0) (mCst (.int 0))) (gCons (gNm 3) gNil))) (mOpN opDm (mCons (mOp2 opIx (mVar 0) (mCst (.int 0))) (mCons (mVar 1) mNil))))
    (mRet (mVar 3)))
    mPass)
    (mSeq (mAsg (gSub (mVar 0) (mCst (.int 2))) (mOp2 (opAdd false) (mOp2 opIx (mVar 0) (mCst (.int 2))) (mCst (.int 1))))
    (mSeq (mAsg (gNm 2) (mOp2 opMod (mOpN opInt (mCons (mOp2 (opAdd false) (mOp2 (opAdd false) (mOp2 (opMul false) (mOp2 opIx (mVar 0) (mCst (.int 1))) (mCst (.int c1))) (mOp2 (opMul false) (mOp2 opIx (mVar 0) (mCst (.int 2))) (mCst (.int c2)))) (mCst (.int c3))) mNil)) (mCst (.int c4))))
    (mSeq (mAsg (gSub (mVar 0) (mCst (.int 1))) (mVar 2))
    (mRet (mOp2 opMod (mOpN opInt (mCons (mOp2 opDiv (mOp2 opMod (mOpN opInt (mCons (mOp2 (opMul false) (mVar 2) (mOp2 (opAdd false) (mOp2 opMod (mOpN opInt (mCons (mVar 2) mNil)) (mCst (.int c5))) (mCst (.int c6)))) mNil)) (mCst (.int c7))) (mCst (.int c8))) mNil)) (mVar 1)))))))
theorem o_mul' {m : Bool} {s : Sto} {i j : Int} (h : mulB i j = true) : opMul m (.int i) (.int j) s = .ok (.int (i * j)) s := if_pos h
theorem pull_ok {c1 c2 c3 c4 c5 c6 c7 c8 : Int} (q1 : 0 < c1 ∧ c1 < 4294967296) (q2 : 0 < c2 ∧ c2 < 4294967296) (q4 : 0 < c4 ∧ c4 < 4294967296) (q5 : 0 < c5 ∧ c5 < 4294967296) (q6 : 0 ≤ c6 ∧ c6 < 4294967296) (q7 : 0 < c7 ∧ c7 < 18446744073709551616) (q8 : 0 < c8 ∧ c8 < 4294967296) {s : Sto} {u : Nat} {k0 t : Int} (U : Urn s u k0) (hk : k0 ≤ 10 ^ 100) (ht : 0 < t) (ht2 : t ≤ 10 ^ 300) :
    (runB 2 4 (mPull c1 c2 c3 c4 c5 c6 c7 c8) [.ref u, .int t] s).wp fun d s' => ∃ x, d = .int x ∧ 0 ≤ x ∧ x < t ∧ Urn s' u (k0 + 1) ∧ Kp u s s' := by
  obtain ⟨a, seed, k, hu, ha, h1, h2, h3, h4⟩ := U.ex
  obtain ⟨q1, q1'⟩ := q1
  obtain ⟨q2, q2'⟩ := q2
  obtain ⟨q4, q4'⟩ := q4
  obtain ⟨q5, q5'⟩ := q5
  obtain ⟨q6, q6'⟩ := q6
  obtain ⟨q7, q7'⟩ := q7
  obtain ⟨q8, q8'⟩ := q8
  have hs := set_at hu
  have ix1 := fun (ds : List D) (i : Int) => o_ixS (i := i) (hs (.lst ds))
  have st1 := fun (ds : List D) (i : Int) (d : D) => setIx_S (i := i) (d := d) (hs (.lst ds))
  by_cases h : 0 < a
  · simp (disch := first | omega | (simp; done) | (simp; omega)) [runB, mPull, o_ixS hu, h, setIx_S hu]
    exact ⟨Int.emod_nonneg _ (by omega), Int.emod_lt_of_pos _ ht, ⟨_, _, _, hs _, Int.ediv_nonneg ha (by omega), h1, h2, h3, by omega⟩, Kp.set u s _⟩
  · have m1 : mulB seed c1 = true := mulB_of _ _ (by omega) (by omega) (by omega) (by omega)
    have m2 : mulB (k + 1) c2 = true := mulB_of _ _ (by omega) (by omega) (by omega) (by omega)
    have p1 := Int.emod_nonneg (seed * c1 + (k + 1) * c2 + c3) (show c4 ≠ 0 by omega)
    have p2 := Int.emod_lt_of_pos (seed * c1 + (k + 1) * c2 + c3) (show 0 < c4 by omega)
    have p3 := Int.emod_nonneg ((seed * c1 + (k + 1) * c2 + c3) % c4) (show c5 ≠ 0 by omega)
    have p4 := Int.emod_lt_of_pos ((seed * c1 + (k + 1) * c2 + c3) % c4) (show 0 < c5 by omega)
    have m3 : mulB ((seed * c1 + (k + 1) * c2 + c3) % c4) ((seed * c1 + (k + 1) * c2 + c3) % c4 % c5 + c6) = true := mulB_of _ _ (by omega) (by omega) (by omega) (by omega)
    simp (disch := first | omega | (simp; done) | (simp; omega)) [runB, mPull, o_ixS hu, h, setIx_S hu, ix1, st1, o_mul' m1, o_mul' m2, o_mul' m3]
    exact ⟨Int.emod_nonneg _ (by omega), Int.emod_lt_of_pos _ ht, ⟨_, _, _, hs _, by omega, p1, by omega, by omega, by omega⟩, Kp.set u s _⟩
/-- the def that pulls -/
def PullF (F : Fn) (id : Nat) : Prop := ∀ (s : Sto) (u : Nat) (k0 t : Int), Urn s u k0 → k0 ≤ 10 ^ 100 → 0 < t → t ≤ 10 ^ 300 →
  (F id [.ref u, .int t] s).wp fun d s' => ∃ x, d = .int x ∧ 0 ≤ x ∧ x < t ∧ Urn s' u (k0 + 1) ∧ Kp u s s'
def mOne (id : Nat) (F : Fn) : MS := (mRet (mOp2 opIx (mVar 1) (mCall F id [.at 0, .at 1] (mCons (mVar 0) (mCons (mOpN (un1 opLen) (mCons (mVar 1) mNil)) mNil)))))
theorem one_ok {F : Fn} {id : Nat} (P : PullF F id) {s : Sto} {u : Nat} {k0 : Int} {ds : List D} (U : Urn s u k0) (hk : k0 ≤ 10 ^ 100) (h0 : 0 < ds.length) (h1 : ds.length ≤ 1000000) :
    (runB 2 2 (mOne id F) [.ref u, .tup ds] s).wp fun d s' => d ∈ ds ∧ Urn s' u (k0 + 1) ∧ Kp u s s' := by
  simp [runB, mOne]
  refine R.wp_mono (P s u k0 ds.length U hk (by omega) (by omega)) fun d s' h => ?_
  obtain ⟨x, rfl, x0, x1, U', K⟩ := h
  rw [o_ixT ds x x0 (by omega)]
  refine ⟨?_, U', K⟩
  rw [List.getD_eq_getElem?_getD, List.getElem?_eq_getElem (by omega)]
  exact List.getElem_mem _
def OneF (F : Fn) (id : Nat) : Prop := ∀ (s : Sto) (u : Nat) (k0 : Int) (ds : List D), Urn s u k0 → k0 ≤ 10 ^ 100 → 0 < ds.length → ds.length ≤ 1000000 →
  (F id [.ref u, .tup ds] s).wp fun d s' => d ∈ ds ∧ Urn s' u (k0 + 1) ∧ Kp u s s'
@[simp] theorem x_sl (m : Bool) (a : ME) (lo hi : Option ME) {env : Ev} {st : Sto} : mSl m a lo hi env st = (a env st).bd fun x s => (mPart lo env s).bd fun l s1 => (mPart hi env s1).bd fun h s2 => opSl m x l h s2 := _root_.id rfl
@[simp] theorem x_partN {env : Ev} {st : Sto} : mPart none env st = .ok none st := _root_.id rfl
@[simp] theorem x_partS (a : ME) {env : Ev} {st : Sto} : mPart (some a) env st = (a env st).bd fun x s => match x with
    | .int i => .ok (some i) s
    | _ => .bad := _root_.id rfl
@[simp] theorem o_slR (m : Bool) (ds : List D) (lo hi : Option Int) {s : Sto} : opSl m (.ro ds) lo hi s = newL m (cutD ds lo hi) s := _root_.id rfl
@[simp] theorem o_slL (m : Bool) (ds : List D) (lo hi : Option Int) {s : Sto} : opSl m (.lst ds) lo hi s = newL m (cutD ds lo hi) s := _root_.id rfl
@[simp] theorem o_slT (m : Bool) (ds : List D) (lo hi : Option Int) {s : Sto} : opSl m (.tup ds) lo hi s = .ok (.tup (cutD ds lo hi)) s := _root_.id rfl
theorem cutD_mem {ds : List D} {lo hi : Option Int} {d : D} (h : d ∈ cutD ds lo hi) : d ∈ ds := List.mem_of_mem_drop (List.mem_of_mem_take h)
theorem app_at (s : Sto) (x : O) : (s ++ [x])[s.length]? = some x := by simp
def mUrn (c1 c2 c3 c4 c5 c6 c7 c8 c9 c10 c11 e1 e2 : Int) : MS := (mSeq (mAsg (gNm 2) (mIf (mTest (mOp2 (opCmp fun i j => decide (i < j)) (mVar 1) (mOpN (un1 opLen) (mCons (mVar 0) mNil)))) (mOpN opInt (mCons (mOp2 opIx (mVar 0) (mVar 1)) mNil)) (mCst (.int 0))))
    (mSeq (mAsg (gNm 3) (mOp2 (opAdd false) (mCst (.int c1)) (mOp2 (opMul false) (mCst (.int c2)) (mVar 1))))
    (mSeq (mFor (gNm 4) (mIt (mSl false (mVar 0) none (some (mCst (.int c3)))))
    (mAsg (gNm 3) (mOp2 opMod (mOpN opInt (mCons (mOp2 (opAdd false) (mOp2 (opAdd false) (mOp2 (opMul false) (mVar 3) (mCst (.int c4))) (mOp2 opMod (mOpN opInt (mCons (mVar 4) mNil)) (mCst (.int c5)))) (mCst (.int c6))) mNil)) (mCst (.int c7)))))
    (mSeq (mAsg (gNm 3) (mOp2 opMod (mOpN opInt (mCons (mOp2 (opAdd false) (mOp2 (opAdd false) (mOp2 (opMul false) (mVar 3) (mCst (.int c8))) (mOp2 (opMul false) (mOp2 opMod (mOpN opInt (mCons (mVar 2) mNil)) (mCst (.int c9))) (mCst (.int c10)))) (mCst (.int c11))) mNil)) (mCst (.int c7))))
    (mRet (mOpN (opLst true) (mCons (mIf (mOrT (mTest (mOp2 (opCmp fun i j => decide (i < j)) (mVar 2) (mCst (.int 0)))) (mTest (mOp2 (opCmp fun i j => decide (j ≤ i)) (mVar 2) (mOp2 opPow (mCst (.int e1)) (mCst (.int e2)))))) (mOpN opAbs (mCons (mVar 2) mNil)) (mCst (.int 0))) (mCons (mVar 3) (mCons (mCst (.int 0)) mNil)))))))))
theorem urn_ok {c1 c2 c3 c4 c5 c6 c7 c8 c9 c10 c11 e1 e2 : Int} (q1 : 0 ≤ c1 ∧ c1 < 4294967296) (q2 : 0 ≤ c2 ∧ c2 < 4294967296) (q4 : 0 < c4 ∧ c4 < 4294967296) (q5 : 0 < c5 ∧ c5 < 4294967296) (q7 : 0 < c7 ∧ c7 < 4294967296) (q8 : 0 < c8 ∧ c8 < 4294967296) (q9 : 0 < c9 ∧ c9 < 4294967296) (q10 : 0 ≤ c10 ∧ c10 < 4294967296) (qe : 0 ≤ e1 ∧ e1 < 100000) (qe2 : 0 ≤ e2 ∧ e2 ≤ 100)
    {s : Sto} {ns : List Int} {t : Nat} (ht : t ≤ 1000000) :
    (runB 2 5 (mUrn c1 c2 c3 c4 c5 c6 c7 c8 c9 c10 c11 e1 e2) [.ro (ns.map .int), .int t] s).wp fun d s' => d = .ref s.length ∧ Urn s' s.length 0 ∧ ∃ x, s' = s ++ [x] := by
  obtain ⟨q1, q1'⟩ := q1
  obtain ⟨q2, q2'⟩ := q2
  obtain ⟨q4, q4'⟩ := q4
  obtain ⟨q5, q5'⟩ := q5
  obtain ⟨q7, q7'⟩ := q7
  obtain ⟨q8, q8'⟩ := q8
  obtain ⟨q9, q9'⟩ := q9
  obtain ⟨q10, q10'⟩ := q10
  obtain ⟨qe, qe'⟩ := qe
  obtain ⟨qf, qf'⟩ := qe2
  -- his own number
  have own : ∃ o : Int, (mIf (mTest (mOp2 (opCmp fun i j => decide (i < j)) (mVar 1) (mOpN (un1 opLen) (mCons (mVar 0) mNil)))) (mOpN opInt (mCons (mOp2 opIx (mVar 0) (mVar 1)) mNil)) (mCst (.int 0))) [some (.ro (ns.map .int)), some (.int t), none, none, none] s = .ok (.int o) s := by
    by_cases h : t < ns.length
    · have e : opIx (.ro (ns.map .int)) (.int t) s = .ok (.int (ns.getD t 0)) s := by
        rw [o_ixR _ _ (by omega) (by simpa using h)]
        simp [h]
      exact ⟨ns.getD t 0, by simp [h, e]⟩
    · exact ⟨0, by simp [h]⟩
  obtain ⟨o, ho⟩ := own
  have m1 : mulB c2 t = true := mulB_of _ _ (by omega) (by omega) (by omega) (by omega)
  unfold runB mUrn
  rw [if_pos (show [D.ro (List.map D.int ns), D.int ↑t].length = 2 from rfl)]
  simp only [x_seq, x_asg]
  have ho' : (mIf (mTest (mOp2 (opCmp fun i j => decide (i < j)) (mVar 1) (mOpN (un1 opLen) (mCons (mVar 0) mNil)))) (mOpN opInt (mCons (mOp2 opIx (mVar 0) (mVar 1)) mNil)) (mCst (.int 0))) (List.map some [D.ro (ns.map .int), .int t] ++ List.replicate (5 - 2) none) s = .ok (.int o) s := ho
  rw [ho']
  simp [o_mul' m1]
  -- the loop
  have p0 : 0 ≤ c2 * (t : Int) := Int.mul_nonneg q2 (by omega)
  have p1 : c2 * (t : Int) ≤ 4294967296 * 1000000 := Int.mul_le_mul (by omega) (by omega) (by omega) (by omega)
  refine for_wp (fun l env st => st = s ∧ (∀ d ∈ l, ∃ i, d = .int i) ∧ ∃ (seed : Int) (z : Option D), env = [some (.ro (ns.map .int)), some (.int t), some (.int o), some (.int seed), z] ∧ 0 ≤ seed ∧ seed ≤ 4294967296 * 1000001) ?_ ?_ _ _ _ ⟨rfl, ?_, _, _, rfl, by omega, by omega⟩
  · rintro d r env st ⟨rfl, hi, seed, z, rfl, h1, h2⟩
    obtain ⟨i, rfl⟩ := hi _ (.head _)
    have m2 : mulB seed c4 = true := mulB_of _ _ (by omega) (by omega) (by omega) (by omega)
    simp (disch := omega) [o_mul' m2]
    refine ⟨fun d hd => hi d (.tail _ hd), Int.emod_nonneg _ (by omega), ?_⟩
    have := Int.emod_lt_of_pos (seed * c4 + i % c5 + c6) q7
    omega
  · rintro env st ⟨rfl, -, seed, z, rfl, h1, h2⟩
    have m2 : mulB seed c8 = true := mulB_of _ _ (by omega) (by omega) (by omega) (by omega)
    have p2 := Int.emod_nonneg o (show c9 ≠ 0 by omega)
    have p3 := Int.emod_lt_of_pos o q9
    have m3 : mulB (o % c9) c10 = true := mulB_of _ _ (by omega) (by omega) (by omega) (by omega)
    have g1 := Int.emod_nonneg (seed * c8 + o % c9 * c10 + c11) (show c7 ≠ 0 by omega)
    have g2 := Int.emod_lt_of_pos (seed * c8 + o % c9 * c10 + c11) q7
    have cs : ∀ b : Int, (if o < 0 then R.ok true st else R.ok (decide (b ≤ o)) st) = R.ok (decide (o < 0) || decide (b ≤ o)) st := fun b => by
      by_cases h : o < 0 <;> simp [h]
    simp (disch := omega) [o_mul' m2, o_mul' m3, cs]
    split
    · simp
      refine ⟨⟨_, _, _, app_at _ _, ?_, g1, by omega, by omega, by omega⟩⟩
      split <;> omega
    · simp
      exact ⟨⟨_, _, _, app_at _ _, by omega, g1, by omega, by omega, by omega⟩⟩
  · intro d hd
    obtain ⟨i, -, e⟩ := List.mem_map.mp (cutD_mem hd)
    exact ⟨i, e.symm⟩
end Rf
set_option maxHeartbeats 4000000
namespace Rf
open PySem PySem.Spec L2
open PyProof.Rows hiding St
/-! ## texts of data -/
mutual
/-- no text of it is longer -/
def wtP : PyData → Nat
  | .none => 5
  | .bool _ => 5
  | .int i => if i.natAbs < 10 ^ 61 then 62 else 1921
  | .str x => (reprText x).length
  | .list xs => wtPs xs + 3
  | .tuple xs => wtPs xs + 3
  | .dict _ => 0
def wtPs : List PyData → Nat
  | [] => 0
  | x :: xs => wtP x + 2 + wtPs xs
end
theorem textFrom_le : ∀ (ts : List Str) (k : Nat) (acc : Str), (textFrom k acc ts).length ≤ acc.length + piled ts
  | [], k, acc => Nat.le_add_right _ _
  | t :: r, k, acc => by
    have ih := textFrom_le r (k + 1) (acc ++ (if k > 0 then ", " else "" : String) ++ t)
    have e : (acc ++ (if k > 0 then ", " else "" : String) ++ t).length = acc.length + (if k > 0 then 2 else 0) + t.length := by
      rw [strLen_append, strLen_append]
      split <;> rfl
    rw [e] at ih
    show (textFrom (k + 1) _ r).length ≤ _
    have e2 : piled (t :: r) = t.length + 2 + piled r := by simp [piled]
    have e3 : (if k > 0 then 2 else 0 : Nat) ≤ 2 := by split <;> omega
    rw [e2]
    exact Nat.le_trans ih (by omega)
theorem listText_le (ts : List Str) : (listText ts).length ≤ piled ts + 3 := by
  unfold listText
  rw [strLen_append]
  have h := textFrom_le ts 0 "["
  have e1 : ((("[" : String) : Str)).length = 1 := rfl
  have e2 : ((("]" : String) : Str)).length = 1 := rfl
  omega
theorem tupleText_le (ts : List Str) : (tupleText ts).length ≤ piled ts + 3 := by
  unfold tupleText
  rw [strLen_append, strLen_append]
  have e1 : ((("(" : String) : Str)).length = 1 := rfl
  have e3 : (((if ts.length == 1 then ",)" else ")" : String) : Str)).length ≤ 2 := by split <;> decide
  by_cases h : ts = []
  · subst h
    have : (Str.join ", " []).length = 0 := rfl
    omega
  · have := join_length_add ts h
    omega
mutual
theorem shown_le : ∀ p : PyData, p.showable = true → p.hasDict = false → p.shown.length ≤ wtP p
  | .none, _, _ => by simp only [PyData.shown, wtP]; decide
  | .bool b, _, _ => by cases b <;> (simp only [PyData.shown, wtP]; decide)
  | .int i, h, _ => by
    simp only [PyData.shown, wtP]
    split
    · rename_i hs
      rw [PySem.ofString_length]
      exact int_text_length_le10 (by decide) hs
    · exact int_text_len_1921 (of_decide_eq_true (by simpa only [PyData.showable] using h))
  | .str x, _, _ => by simp only [PyData.shown, wtP]; exact Nat.le_refl _
  | .list xs, h, h2 => by
    simp only [PyData.shown, wtP]
    have := shownAll_le xs (by simpa only [PyData.showable] using h) (by simpa only [PyData.hasDict] using h2)
    exact Nat.le_trans (listText_le _) (by omega)
  | .tuple xs, h, h2 => by
    simp only [PyData.shown, wtP]
    have := shownAll_le xs (by simpa only [PyData.showable] using h) (by simpa only [PyData.hasDict] using h2)
    exact Nat.le_trans (tupleText_le _) (by omega)
  | .dict _, _, h => by simp [PyData.hasDict] at h
theorem shownAll_le : ∀ ps : List PyData, PyData.showableAll ps = true → PyData.hasDictAll ps = false → piled (PyData.shownAll ps) ≤ wtPs ps
  | [], _, _ => by simp only [PyData.shownAll, wtPs]; exact Nat.le_refl _
  | p :: ps, h, h2 => by
    simp only [PyData.showableAll, Bool.and_eq_true] at h
    simp only [PyData.hasDictAll, Bool.or_eq_false_iff] at h2
    have a := shown_le p h.1 h2.1
    have b := shownAll_le ps h.2 h2.2
    simp only [PyData.shownAll, wtPs]
    have e2 : piled (p.shown :: PyData.shownAll ps) = p.shown.length + 2 + piled (PyData.shownAll ps) := by simp [piled]
    omega
end
/-- it may be shown -/
def shwB (p : PyData) : Bool := p.showable && !p.hasDict && decide (wtP p ≤ 16000000) && decide (p.depth ≤ 64)
theorem shwB_ok {p : PyData} (h : shwB p = true) : shownB p = true := by
  unfold shwB at h
  simp only [Bool.and_eq_true, Bool.not_eq_true', decide_eq_true_eq] at h
  obtain ⟨⟨⟨h1, h2⟩, h3⟩, h4⟩ := h
  have := shown_le p h1 h2
  unfold shownB
  simp only [Bool.and_eq_true, Bool.not_eq_true', decide_eq_true_eq]
  exact ⟨⟨⟨h1, Nat.le_trans this (Nat.le_trans h3 (by decide))⟩, h4⟩, h2⟩
/-- _law_is upon the same datum twice -/
def mIs : MS := (mRet (mOp2 (opEq false) (mOpN opRepr (mCons (mVar 0) mNil)) (mOpN opRepr (mCons (mVar 1) mNil))))
theorem strEq (x : Str) {s : Sto} : opEq false (.str x) (.str x) s = .ok (.bl true) s := by
  show R.ok (D.bl (decide (x = x))) s = _
  rw [decide_eq_true rfl]
theorem is_same {x y : D} {s : Sto} {p : PyData} (h : toPd x s = some p) (h2 : toPd y s = some p) (hp : shwB p = true) : runB 2 2 mIs [x, y] s = .ok (.bl true) s := by
  have e1 : opRepr [x] s = .ok (.str p.shown) s := by
    show (match toPd x s with | some p => if shownB p then R.ok (D.str p.shown) s else .bad | none => .bad) = _
    rw [h]
    show (if shownB p = true then R.ok (D.str p.shown) s else .bad) = _
    rw [if_pos (shwB_ok hp)]
  have e2 : opRepr [y] s = .ok (.str p.shown) s := by
    show (match toPd y s with | some p => if shownB p then R.ok (D.str p.shown) s else .bad | none => .bad) = _
    rw [h2]
    show (if shownB p = true then R.ok (D.str p.shown) s else .bad) = _
    rw [if_pos (shwB_ok hp)]
  simp [runB, mIs, e1, e2, strEq]
/-- a number may be shown -/
theorem shwI {i : Int} (h1 : -(10 ^ 300) ≤ i) (h2 : i ≤ 10 ^ 300) : PyData.showable (.int i) = true := by
  have h : i.natAbs < 2 ^ 1200 := by
    have h0 : i.natAbs ≤ 10 ^ 300 := by omega
    exact Nat.lt_of_le_of_lt h0 (by decide +kernel)
  simp only [PyData.showable]
  by_cases e : i.natAbs = 0
  · rw [e]; decide
  · exact decide_eq_true (Nat.lt_trans ((Nat.log2_lt e).mpr h) (by decide))
theorem shwL {i : Int} (h1 : -(10 ^ 300) ≤ i) (h2 : i ≤ 10 ^ 300) : i.natAbs.log2 < 1920 := of_decide_eq_true (by simpa only [PyData.showable] using shwI h1 h2)
/-- the law's own loop over its turns -/
def mLawFor (idR idU : Nat) (F : Fn) (lo hi : Int) : MS := (mSeq (mFor (gNm 1) (mRg (mCons (mOpN opMax (mCons (mCst (.int lo)) (mCons (mOpN opMin (mCons (mOpN (un1 opLen) (mCons (mVar 0) mNil)) (mCons (mCst (.int hi)) mNil))) mNil))) mNil))
    (mIfS (mNotT (mTest (mCall F idR [.at 0] (mCons (mCall F idU [.at 0, .at 1] (mCons (mVar 0) (mCons (mVar 1) mNil))) mNil))))
    (mRet (mCst (.bl false)))
    mPass))
    (mRet (mCst (.bl true))))
theorem law_ok {F : Fn} {idR idU : Nat} {lo hi : Int} (ns : List Int) (hl : 0 ≤ lo ∧ lo ≤ 1000) (hh : 0 ≤ hi ∧ hi ≤ 1000)
    (hU : ∀ (s : Sto) (t : Nat), t ≤ 1000000 → (F idU [.ro (ns.map .int), .int t] s).wp fun d s' => d = .ref s.length ∧ Urn s' s.length 0 ∧ ∃ x, s' = s ++ [x])
    (hR : ∀ (s : Sto) (u : Nat), Urn s u 0 → (F idR [.ref u] s).wp fun d _ => d = .bl true) :
    (runB 1 2 (mLawFor idR idU F lo hi) [.ro (ns.map .int)] []).wp fun d _ => d = .bl true := by
  obtain ⟨hl, hl'⟩ := hl
  obtain ⟨hh, hh'⟩ := hh
  let b : Int := if (if hi < (ns.length : Int) then hi else ns.length) > lo then (if hi < (ns.length : Int) then hi else ns.length) else lo
  have b0 : 0 ≤ b := by show 0 ≤ ite _ _ _; split <;> (try split) <;> omega
  have b1 : b ≤ 1000 := by show ite _ _ _ ≤ (1000 : Int); split <;> (try split) <;> omega
  have hrg : rgB 0 b = true := rgB_yes 0 b (by omega) (by omega) (by omega) (by omega) (by omega)
  have e : (mRg (mCons (mOpN opMax (mCons (mCst (.int lo)) (mCons (mOpN opMin (mCons (mOpN (un1 opLen) (mCons (mVar 0) mNil)) (mCons (mCst (.int hi)) mNil))) mNil))) mNil)) [some (.ro (ns.map .int)), none] [] = .ok (rgI 0 b, none) [] := by
    have e1 : (mOpN opMax (mCons (mCst (.int lo)) (mCons (mOpN opMin (mCons (mOpN (un1 opLen) (mCons (mVar 0) mNil)) (mCons (mCst (.int hi)) mNil))) mNil))) [some (.ro (ns.map .int)), none] [] = .ok (.int b) [] := by
      simp
      rfl
    show ((mCons _ mNil) _ _).bd _ = _
    rw [x_cons, e1]
    simp [hrg]
  unfold runB mLawFor
  rw [if_pos (show [D.ro (List.map D.int ns)].length = 1 from rfl)]
  rw [x_seq, x_for]
  have e' : (mRg (mCons (mOpN opMax (mCons (mCst (.int lo)) (mCons (mOpN opMin (mCons (mOpN (un1 opLen) (mCons (mVar 0) mNil)) (mCons (mCst (.int hi)) mNil))) mNil))) mNil)) (List.map some [D.ro (ns.map .int)] ++ List.replicate (2 - 1) none) [] = .ok (rgI 0 b, none) [] := e
  rw [e']
  simp only [R.bd_ok, wp_bd']
  refine for_wp (fun l env st => (∀ d ∈ l, ∃ t : Nat, d = .int t ∧ t ≤ 1000000) ∧ ∃ z, env = [some (.ro (ns.map .int)), z]) ?_ ?_ _ _ _ ⟨?_, _, rfl⟩
  · rintro d r env st ⟨hi', z, rfl⟩
    obtain ⟨t, rfl, ht⟩ := hi' _ (.head _)
    simp
    refine R.wp_mono (hU st t ht) fun d s' h => ?_
    obtain ⟨rfl, U, x, rfl⟩ := h
    refine R.wp_mono (hR _ _ U) fun d s' h => ?_
    subst h
    simp
    exact fun d hd => hi' d (.tail _ hd)
  · rintro env st ⟨-, z, rfl⟩
    simp
  · intro d hd
    unfold rgI at hd
    obtain ⟨i, hi1, rfl⟩ := List.mem_map.mp hd
    have := List.mem_range.mp hi1
    exact ⟨i, by simp, by omega⟩
end Rf
set_option maxHeartbeats 400000
namespace Rf
open PySem PySem.Spec L2
open PyProof.Rows hiding St
/-! ## comprehensions, read -/
@[simp] theorem x_lc (m : Bool) (vs : List Nat) (g : MG) (mt : MT) (me : ME) (mi : MI) {env : Ev} {st : Sto} : mLc m vs g mt me mi env st = (mi env st).bd fun p s => (lcL vs g mt me p.2 p.1 env p.1 s []).bd fun acc s2 => newL m acc s2 := _root_.id rfl
@[simp] theorem x_yes {env : Ev} {st : Sto} : mYes env st = .ok true st := _root_.id rfl
@[simp] theorem x_dct {env : Ev} {st : Sto} : mDct env st = .ok (.dct []) st := _root_.id rfl
@[simp] theorem w_nil (env : Ev) : wipeE env [] = env := _root_.id rfl
@[simp] theorem w_cons (env : Ev) (v : Nat) (vs : List Nat) : wipeE env (v :: vs) = (wipeE env vs).set v none := _root_.id rfl
theorem lc_wp {vs : List Nat} {g : MG} {mt : MT} {me : ME} {all : List D} {env : Ev} (I : List D → Sto → List D → Prop) {Q : List D → Sto → Prop}
    (hs : ∀ d r st acc, I (d :: r) st acc → (g d (wipeE env vs) st).wp fun e s => (mt e s).wp fun k s2 => if k then (me e s2).wp fun y s3 => I r s3 (acc ++ [y]) else I r s2 acc)
    (he : ∀ st acc, I [] st acc → Q acc st) : ∀ (l : List D) (st : Sto) (acc : List D), I l st acc → (lcL vs g mt me none all env l st acc).wp Q
  | [], st, acc, h => he st acc h
  | d :: r, st, acc, h => by
    show ((g d (wipeE env vs) st).bd fun e s => (mt e s).bd fun k s2 => if k then (me e s2).bd fun y s3 => lcL vs g mt me none all env r s3 (acc ++ [y]) else lcL vs g mt me none all env r s2 acc).wp Q
    rw [wp_bd']
    refine R.wp_mono (hs d r st acc h) fun e s h1 => ?_
    rw [wp_bd']
    refine R.wp_mono h1 fun k s2 h2 => ?_
    cases k with
    | true =>
      rw [if_pos rfl] at h2 ⊢
      rw [wp_bd']
      exact R.wp_mono h2 fun y s3 h3 => lc_wp I hs he r s3 _ h3
    | false =>
      rw [if_neg (by decide)] at h2 ⊢
      exact lc_wp I hs he r s2 _ h2
/-- each turn one value, the store kept -/
theorem lc_map {vs : List Nat} {g : MG} {me : ME} {all : List D} {env : Ev} {st : Sto} {f : D → D} : ∀ (l : List D) (acc : List D), (∀ d ∈ l, ∃ e, g d (wipeE env vs) st = .ok e st ∧ me e st = .ok (f d) st) → lcL vs g mYes me none all env l st acc = .ok (acc ++ l.map f) st
  | [], acc, _ => by simp [lcL, gstB]
  | d :: r, acc, h => by
    obtain ⟨e, h1, h2⟩ := h d (.head _)
    have ih := lc_map (all := all) r (acc ++ [f d]) fun d' hd' => h d' (.tail _ hd')
    unfold lcL
    rw [if_pos (show gstB none all st = true from rfl), h1]
    simp [h2, ih]
theorem bls_map (bs : List Bool) : bls (bs.map D.bl) = some bs := by
  induction bs with
  | nil => rfl
  | cons b bs ih =>
    show (match bls (bs.map D.bl) with | some cs => some (b :: cs) | none => none) = _
    rw [ih]
theorem o_all {f : D → Bool} {ds : List D} {st : Sto} : opBls (fun bs => .bl (bs.all id)) [.lst (ds.map fun d => .bl (f d))] st = .ok (.bl (ds.all f)) st := by
  have e : (ds.map fun d => D.bl (f d)) = (ds.map f).map D.bl := by simp
  show (match bls (ds.map fun d => D.bl (f d)) with | some bs => R.ok (D.bl (bs.all id)) st | none => .bad) = _
  rw [e, bls_map]
  simp [List.all_map]
/-- the law's all over its turns -/
def mLawAll (idR idU : Nat) (F : Fn) (lo hi : Int) : MS := (mRet (mOpN (opBls fun bs => .bl (bs.all id)) (mCons (mLc false [1] (gNm 1) mYes (mCall F idR [.at 0] (mCons (mCall F idU [.at 0, .at 1] (mCons (mVar 0) (mCons (mVar 1) mNil))) mNil)) (mRg (mCons (mOpN opMax (mCons (mCst (.int lo)) (mCons (mOpN opMin (mCons (mOpN (un1 opLen) (mCons (mVar 0) mNil)) (mCons (mCst (.int hi)) mNil))) mNil))) mNil))) mNil)))
theorem lawAll_ok {F : Fn} {idR idU : Nat} {lo hi : Int} (ns : List Int) (hl : 0 ≤ lo ∧ lo ≤ 1000) (hh : 0 ≤ hi ∧ hi ≤ 1000)
    (hU : ∀ (s : Sto) (t : Nat), t ≤ 1000000 → (F idU [.ro (ns.map .int), .int t] s).wp fun d s' => d = .ref s.length ∧ Urn s' s.length 0 ∧ ∃ x, s' = s ++ [x])
    (hR : ∀ (s : Sto) (u : Nat), Urn s u 0 → (F idR [.ref u] s).wp fun d _ => d = .bl true) :
    (runB 1 2 (mLawAll idR idU F lo hi) [.ro (ns.map .int)] []).wp fun d _ => d = .bl true := by
  obtain ⟨hl, hl'⟩ := hl
  obtain ⟨hh, hh'⟩ := hh
  let b : Int := if (if hi < (ns.length : Int) then hi else ns.length) > lo then (if hi < (ns.length : Int) then hi else ns.length) else lo
  have b0 : 0 ≤ b := by show 0 ≤ ite _ _ _; split <;> (try split) <;> omega
  have b1 : b ≤ 1000 := by show ite _ _ _ ≤ (1000 : Int); split <;> (try split) <;> omega
  have hrg : rgB 0 b = true := rgB_yes 0 b (by omega) (by omega) (by omega) (by omega) (by omega)
  have e : (mRg (mCons (mOpN opMax (mCons (mCst (.int lo)) (mCons (mOpN opMin (mCons (mOpN (un1 opLen) (mCons (mVar 0) mNil)) (mCons (mCst (.int hi)) mNil))) mNil))) mNil)) [some (.ro (ns.map .int)), none] [] = .ok (rgI 0 b, none) [] := by
    have e1 : (mOpN opMax (mCons (mCst (.int lo)) (mCons (mOpN opMin (mCons (mOpN (un1 opLen) (mCons (mVar 0) mNil)) (mCons (mCst (.int hi)) mNil))) mNil))) [some (.ro (ns.map .int)), none] [] = .ok (.int b) [] := by
      simp
      rfl
    show ((mCons _ mNil) _ _).bd _ = _
    rw [x_cons, e1]
    simp [hrg]
  unfold runB mLawAll
  rw [if_pos (show [D.ro (List.map D.int ns)].length = 1 from rfl)]
  rw [x_ret, x_opN, x_cons, x_lc]
  have e' : (mRg (mCons (mOpN opMax (mCons (mCst (.int lo)) (mCons (mOpN opMin (mCons (mOpN (un1 opLen) (mCons (mVar 0) mNil)) (mCons (mCst (.int hi)) mNil))) mNil))) mNil)) (List.map some [D.ro (ns.map .int)] ++ List.replicate (2 - 1) none) [] = .ok (rgI 0 b, none) [] := e
  rw [e']
  simp only [R.bd_ok, wp_bd']
  refine lc_wp (fun l st acc => (∀ d ∈ l, ∃ t : Nat, d = .int t ∧ t ≤ 1000000) ∧ ∃ n : Nat, acc = (List.replicate n true).map D.bl) ?_ ?_ _ _ _ ⟨?_, 0, rfl⟩
  · rintro d r st acc ⟨hi', n, rfl⟩
    obtain ⟨t, rfl, ht⟩ := hi' _ (.head _)
    simp
    refine R.wp_mono (hU st t ht) fun d s' h => ?_
    obtain ⟨rfl, U, x, rfl⟩ := h
    refine R.wp_mono (hR _ _ U) fun d s' h => ?_
    subst h
    refine ⟨fun d hd => hi' d (.tail _ hd), n + 1, ?_⟩
    rw [List.replicate_succ']
  · rintro st acc ⟨-, n, rfl⟩
    have q : opBls (fun bs => .bl (bs.all id)) [.lst ((List.replicate n true).map D.bl)] st = .ok (.bl ((List.replicate n true).all id)) st := by
      show (match bls ((List.replicate n true).map D.bl) with | some bs => R.ok (D.bl (bs.all id)) st | none => .bad) = _
      rw [bls_map]
    simp only [n_f, R.bd_ok, wp_bd', wp_ok', x_nil, q]
    simp
  · intro d hd
    unfold rgI at hd
    obtain ⟨i, hi1, rfl⟩ := List.mem_map.mp hd
    have := List.mem_range.mp hi1
    exact ⟨i, by simp, by omega⟩
/-! ## the greatest common divisor by a loop -/
theorem mod_half {a b : Nat} (hb : 0 < b) (hr : 0 < a % b) : 2 * (b % (a % b)) < b := by
  have h1 : a % b < b := Nat.mod_lt _ hb
  have h2 : b % (a % b) < a % b := Nat.mod_lt _ hr
  by_cases h : 2 * (a % b) ≤ b
  · omega
  · have : b % (a % b) = b - a % b := by
      rw [Nat.mod_eq_sub_mod (by omega)]
      exact Nat.mod_eq_of_lt (by omega)
    omega
theorem gcd_loop {c : MT} {m : MS} {env : Nat → Nat → Ev} {st : Sto} (hc : ∀ a b, c (env a b) st = .ok (decide (0 < b)) st) (hm : ∀ a b, 0 < b → m (env a b) st = .ok (.nx (env b (a % b))) st) :
    ∀ (k n a b : Nat), b < 2 ^ k → 2 * k + 1 ≤ n → whl c m n (env a b) st = .ok (.nx (env (Nat.gcd a b) 0)) st := by
  have stop : ∀ (n a : Nat), 1 ≤ n → whl c m n (env a 0) st = .ok (.nx (env (Nat.gcd a 0) 0)) st := by
    intro n a hn
    cases n with
    | zero => omega
    | succ n =>
      unfold whl
      rw [hc]
      simp
  have go : ∀ (n a b : Nat), 0 < b → whl c m (n + 1) (env a b) st = whl c m n (env b (a % b)) st := by
    intro n a b h
    have e : whl c m (n + 1) (env a b) st = (c (env a b) st).bd fun k s => if k then (m (env a b) s).bd fun f s2 => match f with
      | .nx e => whl c m n e s2
      | .ct e => whl c m n e s2
      | .bk e => .ok (.nx e) s2
      | .rt d => .ok (.rt d) s2
    else .ok (.nx (env a b)) s := rfl
    rw [e, hc, R.bd_ok, decide_eq_true h, if_pos rfl, hm a b h]
    rfl
  have gr : ∀ a b : Nat, Nat.gcd a b = Nat.gcd b (a % b) := fun a b => by rw [Nat.gcd_comm a b, Nat.gcd_rec b a, Nat.gcd_comm]
  intro k
  induction k with
  | zero =>
    intro n a b hb hn
    have : b = 0 := by simpa using hb
    subst this
    exact stop n a (by omega)
  | succ k ih =>
    intro n a b hb hn
    by_cases h0 : b = 0
    · subst h0
      exact stop n a (by omega)
    · obtain ⟨n, rfl⟩ : ∃ m, n = m + 1 := ⟨n - 1, by omega⟩
      rw [go n a b (by omega), gr a b]
      by_cases h1 : a % b = 0
      · rw [h1]
        exact stop n b (by omega)
      · obtain ⟨n, rfl⟩ : ∃ m, n = m + 1 := ⟨n - 1, by omega⟩
        rw [go n b (a % b) (by omega), gr b (a % b)]
        have := mod_half (a := a) (b := b) (by omega) (by omega)
        exact ih n _ _ (by rw [Nat.pow_succ] at hb; omega) (by omega)
end Rf
set_option maxHeartbeats 400000
namespace Rf
open PySem PySem.Spec L2
open PyProof.Rows hiding St
/-! ## anything: plain data, its numbers no greater than k -/
mutual
def pl (L : Nat) (k : Int) : D → Prop
  | .non => True
  | .bl _ => True
  | .str _ => True
  | .int i => -k ≤ i ∧ i ≤ k
  | .tup ds => ds.length ≤ L ∧ pls L k ds
  | .lst ds => ds.length ≤ L ∧ pls L k ds
  | .dct _ => True
  | _ => False
def pls (L : Nat) (k : Int) : List D → Prop
  | [] => True
  | d :: ds => pl L k d ∧ pls L k ds
end
theorem pls_iff {L : Nat} {k : Int} : ∀ {ds : List D}, pls L k ds ↔ ∀ d ∈ ds, pl L k d
  | [] => Iff.intro (fun _ _ h => nomatch h) (fun _ => by unfold pls; trivial)
  | d :: ds => by
    have e : pls L k (d :: ds) = (pl L k d ∧ pls L k ds) := by conv => lhs; unfold pls
    rw [e, List.forall_mem_cons, pls_iff (ds := ds)]
mutual
theorem pl_mono {L L' : Nat} {k k' : Int} (hL : L ≤ L') (h : k ≤ k') : ∀ d : D, pl L k d → pl L' k' d
  | .non, _ => by unfold pl; trivial
  | .bl _, _ => by unfold pl; trivial
  | .str _, _ => by unfold pl; trivial
  | .int i, q => by unfold pl at q ⊢; omega
  | .tup ds, q => by unfold pl at q ⊢; exact ⟨by omega, pls_mono hL h ds q.2⟩
  | .lst ds, q => by unfold pl at q ⊢; exact ⟨by omega, pls_mono hL h ds q.2⟩
  | .dct _, _ => by unfold pl; trivial
  | .ro _, q => by unfold pl at q; exact q.elim
  | .ref _, q => by unfold pl at q; exact q.elim
  | .fn _, q => by unfold pl at q; exact q.elim
  | .err _ _, q => by unfold pl at q; exact q.elim
theorem pls_mono {L L' : Nat} {k k' : Int} (hL : L ≤ L') (h : k ≤ k') : ∀ ds : List D, pls L k ds → pls L' k' ds
  | [], _ => by unfold pls; trivial
  | d :: ds, q => by unfold pls at q ⊢; exact ⟨pl_mono hL h d q.1, pls_mono hL h ds q.2⟩
end
theorem pl_tup {L : Nat} {k : Int} {ds : List D} : pl L k (.tup ds) ↔ ds.length ≤ L ∧ ∀ d ∈ ds, pl L k d := by
  have e : pl L k (.tup ds) = (ds.length ≤ L ∧ pls L k ds) := by conv => lhs; unfold pl
  rw [e, pls_iff]
theorem pl_lst {L : Nat} {k : Int} {ds : List D} : pl L k (.lst ds) ↔ ds.length ≤ L ∧ ∀ d ∈ ds, pl L k d := by
  have e : pl L k (.lst ds) = (ds.length ≤ L ∧ pls L k ds) := by conv => lhs; unfold pl
  rw [e, pls_iff]
theorem pl_int {L : Nat} {k i : Int} : pl L k (.int i) ↔ -k ≤ i ∧ i ≤ k := by unfold pl; exact Iff.rfl
@[simp] theorem pl_non {L : Nat} {k : Int} : pl L k .non := by unfold pl; trivial
@[simp] theorem pl_bl {L : Nat} {k : Int} {b : Bool} : pl L k (.bl b) := by unfold pl; trivial
@[simp] theorem pl_str {L : Nat} {k : Int} {x : Str} : pl L k (.str x) := by unfold pl; trivial
@[simp] theorem pl_dct {L : Nat} {k : Int} {x : List (Key × D)} : pl L k (.dct x) := by unfold pl; trivial
/-- nested so deep at most (tuples alone) -/
def pd : Nat → D → Prop
  | 0, .tup _ => False
  | 0, _ => True
  | m + 1, .tup ds => ∀ d ∈ ds, pd m d
  | _ + 1, _ => True
def tyP : D → Ty
  | .bl _ => .bool
  | .int _ => .int
  | .str _ => .str
  | .tup _ => .tuple
  | .lst _ => .list
  | .dct _ => .dict
  | _ => .none
theorem isi_pl {L : Nat} {k : Int} {d : D} (h : pl L k d) (t : Ty) {s : Sto} : opIsi t d s = .ok (.bl ((tyP d).sub t)) s := by
  cases d <;> first | rfl | (unfold pl at h; exact h.elim)
@[simp] theorem o_eqI (i j : Int) {s : Sto} : opEq false (.int i) (.int j) s = .ok (.bl (decide (i = j))) s := by
  have e : PyData.eqv (.int i) (.int j) = decide (i = j) := by
    simp [PyData.eqv]
    rfl
  show (if (PyData.int i).canLay0 && (PyData.int j).canLay0 && decide (min (PyData.int i).depth (PyData.int j).depth ≤ 64) then R.ok (D.bl (PyData.eqv (.int i) (.int j))) s else .bad) = _
  rw [e, if_pos]
  simp [PyData.canLay0, PyData.depth]
@[simp] theorem o_neI (i j : Int) {s : Sto} : opEq true (.int i) (.int j) s = .ok (.bl (!decide (i = j))) s := by
  have e : PyData.eqv (.int i) (.int j) = decide (i = j) := by
    simp [PyData.eqv]
    rfl
  show (if (PyData.int i).canLay0 && (PyData.int j).canLay0 && decide (min (PyData.int i).depth (PyData.int j).depth ≤ 64) then R.ok (D.bl (!PyData.eqv (.int i) (.int j))) s else .bad) = _
  rw [e, if_pos]
  simp [PyData.canLay0, PyData.depth]
@[simp] theorem o_eqS (x y : Str) {s : Sto} : opEq false (.str x) (.str y) s = .ok (.bl (decide (x = y))) s := _root_.id rfl
@[simp] theorem o_neS (x y : Str) {s : Sto} : opEq true (.str x) (.str y) s = .ok (.bl (!decide (x = y))) s := _root_.id rfl
@[simp] theorem o_neE (ds : List D) {s : Sto} : opEq true (.tup ds) (.tup []) s = .ok (.bl (!ds.isEmpty)) s := _root_.id rfl
@[simp] theorem o_eqE (ds : List D) {s : Sto} : opEq false (.tup ds) (.tup []) s = .ok (.bl ds.isEmpty) s := _root_.id rfl
theorem o_eq2 (a b c d : Int) {s : Sto} : opEq false (.tup [.int a, .int b]) (.tup [.int c, .int d]) s = .ok (.bl (decide (a = c) && decide (b = d))) s := by
  have e : PyData.eqv (.tuple [.int a, .int b]) (.tuple [.int c, .int d]) = (decide (a = c) && decide (b = d)) := by
    simp [PyData.eqv, PyData.eqvAll]
    rfl
  show (if (PyData.tuple [.int a, .int b]).canLay0 && (PyData.tuple [.int c, .int d]).canLay0 && decide (min (PyData.tuple [.int a, .int b]).depth (PyData.tuple [.int c, .int d]).depth ≤ 64) then R.ok (D.bl (PyData.eqv (.tuple [.int a, .int b]) (.tuple [.int c, .int d]))) s else .bad) = _
  rw [e, if_pos]
  simp [PyData.canLay0, PyData.canLayAll0, PyData.depth, PyData.depthAll]
@[simp] theorem o_gcd (i j : Int) {s : Sto} : opGcd [.int i, .int j] s = .ok (.int ((Nat.gcd i.natAbs j.natAbs : Nat) : Int)) s := _root_.id rfl
@[simp] theorem o_isB (a b : Bool) {s : Sto} : opIsB false (.bl a) (.bl b) s = .ok (.bl (decide (a = b))) s := _root_.id rfl
@[simp] theorem o_isN (neg : Bool) (x : D) {s : Sto} : opIsN neg x s = .ok (.bl (if neg then !isN x else isN x)) s := _root_.id rfl
@[simp] theorem o_ix0 (a : D) (r : List D) {s : Sto} : opIx (.tup (a :: r)) (.int 0) s = .ok a s := by
  rw [o_ixT _ _ (by omega) (by simp)]
  rfl
@[simp] theorem o_ix1 (a b : D) (r : List D) {s : Sto} : opIx (.tup (a :: b :: r)) (.int 1) s = .ok b s := by
  rw [o_ixT _ _ (by omega) (by simp; omega)]
  rfl
/-! ### what the predicates say -/
def isWh : D → Bool
  | .int _ => true
  | _ => false
def isBt (lo hi : Int) : D → Bool
  | .int i => decide (lo ≤ i) && decide (i ≤ hi)
  | _ => false
def isRat : D → Bool
  | .tup [.int a, .int b] => decide (0 < b) && decide (Nat.gcd a.natAbs b.natAbs = 1)
  | _ => false
def isRow (n : Int) : D → Bool
  | .tup ds => decide ((ds.length : Int) = n) && ds.all isRat
  | _ => false
def isWish (n : Int) : D → Bool
  | .tup [r, f] => isRow n r && isRat f
  | _ => false
def isLot (most : Int) : D → Bool
  | .tup [.int n, .tup ws] => decide (1 ≤ n) && decide (n ≤ 12) && decide ((ws.length : Int) ≤ most) && ws.all (isWish n)
  | _ => false
/-! ## stores -/
@[simp] theorem x_mt (f : Op2) (o e : ME) {env : Ev} {st : Sto} : mMt f o e env st = (o env st).bd fun x s => if (lstD x s).isSome then (e env s).bd fun y s2 => f x y s2 else .bad := _root_.id rfl
@[simp] theorem x_mt0 (f : Op1) (o : ME) {env : Ev} {st : Sto} : mMt0 f o env st = (o env st).bd fun x s => if (lstD x s).isSome then f x s else .bad := _root_.id rfl
theorem lstD_ref {s : Sto} {n : Nat} {ds : List D} (h : s[n]? = some (.lst ds)) : lstD (.ref n) s = some ds := by
  show (match s[n]? with | some (.lst ds) => some ds | _ => none) = _
  rw [h]
theorem opApp_ref {s : Sto} {n : Nat} {ds : List D} {y : D} (h : s[n]? = some (.lst ds)) (hz : ds.length < 1000000) : opApp (.ref n) y s = .ok .non (s.set n (.lst (ds ++ [y]))) := by
  show (match s[n]? with | some (.lst ds) => (if ds.length < sizeLine then R.ok D.non (s.set n (.lst (ds ++ [y]))) else .bad) | _ => .bad) = _
  rw [h]
  exact if_pos (Nat.lt_of_lt_of_le hz (by decide))
theorem opLen_ref {s : Sto} {n : Nat} {ds : List D} (h : s[n]? = some (.lst ds)) : opLen (.ref n) s = .ok (.int ds.length) s := by
  show (match lstD (.ref n) s with | some ds => R.ok (D.int ds.length) s | none => .bad) = _
  rw [lstD_ref h]
theorem opTupOf_ref {s : Sto} {n : Nat} {ds : List D} (h : s[n]? = some (.lst ds)) : opTupOf (.ref n) s = .ok (.tup ds) s := by
  show (match lstD (.ref n) s with | some ds => R.ok (D.tup ds) s | none => .bad) = _
  rw [lstD_ref h]
@[simp] theorem opTupOf_lst (ds : List D) {s : Sto} : opTupOf (.lst ds) s = .ok (.tup ds) s := _root_.id rfl
@[simp] theorem opLstOf_tup (ds : List D) {s : Sto} : opLstOf false (.tup ds) s = .ok (.lst ds) s := _root_.id rfl
@[simp] theorem opRev_tup (m : Bool) (ds : List D) {s : Sto} : opRev m (.tup ds) s = .ok (.tup ds.reverse) s := _root_.id rfl
theorem opAdd_tup (m : Bool) (a b : List D) {s : Sto} (h : a.length + b.length ≤ 10000000) : opAdd m (.tup a) (.tup b) s = .ok (.tup (a ++ b)) s := if_pos (Nat.le_trans h (by decide))
theorem ix_in {ds : List D} {i : Int} {s : Sto} (h0 : 0 ≤ i) (h1 : i < ds.length) : ∃ d, d ∈ ds ∧ opIx (.tup ds) (.int i) s = .ok d s := by
  refine ⟨ds.getD i.toNat .non, ?_, o_ixT ds i h0 h1⟩
  rw [List.getD_eq_getElem?_getD, List.getElem?_eq_getElem (by omega)]
  exact List.getElem_mem _
theorem ix_inS {ds : List D} {n : Nat} {i : Int} {s : Sto} (h : s[n]? = some (.lst ds)) (h0 : 0 ≤ i) (h1 : i < ds.length) : ∃ d, d ∈ ds ∧ opIx (.ref n) (.int i) s = .ok d s := by
  refine ⟨ds.getD i.toNat .non, ?_, o_ixS h h0 h1⟩
  rw [List.getD_eq_getElem?_getD, List.getElem?_eq_getElem (by omega)]
  exact List.getElem_mem _
/-- all that stood there stands there yet, but for the urn -/
def Kq (u : Nat) (s s' : Sto) : Prop := s.length ≤ s'.length ∧ ∀ i, i < s.length → i ≠ u → s'[i]? = s[i]?
theorem Kp.q {u : Nat} {s s' : Sto} (h : Kp u s s') : Kq u s s' := ⟨by rw [h.1]; exact Nat.le_refl _, fun i _ n => h.2 i n⟩
theorem Kq.refl (u : Nat) (s : Sto) : Kq u s s := ⟨Nat.le_refl _, fun _ _ _ => rfl⟩
theorem Kq.trans {u : Nat} {s s1 s2 : Sto} (h : Kq u s s1) (h' : Kq u s1 s2) : Kq u s s2 := ⟨Nat.le_trans h.1 h'.1, fun i a n => (h'.2 i (Nat.lt_of_lt_of_le a h.1) n).trans (h.2 i a n)⟩
theorem Kq.at_ {u n : Nat} {s s' : Sto} {o : O} (h : Kq u s s') (hn : n ≠ u) (e : s[n]? = some o) : s'[n]? = some o := by
  rw [h.2 n (List.getElem?_eq_some_iff.mp e).1 hn]
  exact e
theorem Kq.push (u : Nat) (s : Sto) (o : O) : Kq u s (s ++ [o]) := ⟨by simp, fun i h _ => List.getElem?_append_left h⟩
/-- behind the old end anything may change -/
theorem Kq.new {u n : Nat} {s s' : Sto} {o : O} (h : Kq u s s') (hn : s.length ≤ n) : Kq u s (s'.set n o) := ⟨by rw [List.length_set]; exact h.1, fun i a b => by
  rw [List.getElem?_set_ne (by omega)]
  exact h.2 i a b⟩
theorem Urn.lt {s : Sto} {u : Nat} {k : Int} (U : Urn s u k) : u < s.length := by
  obtain ⟨a, b, c, h, _⟩ := U.ex
  exact (List.getElem?_eq_some_iff.mp h).1
theorem Urn.mono {s : Sto} {u : Nat} {k k' : Int} (U : Urn s u k) (h : k ≤ k') : Urn s u k' := by
  obtain ⟨a, b, c, h1, h2, h3, h4, h5, h6⟩ := U.ex
  exact ⟨a, b, c, h1, h2, h3, h4, h5, by omega⟩
theorem Urn.push {s : Sto} {u : Nat} {k : Int} (U : Urn s u k) (o : O) : Urn (s ++ [o]) u k := by
  obtain ⟨a, b, c, h, r⟩ := U.ex
  exact ⟨a, b, c, by rw [List.getElem?_append_left U.lt]; exact h, r⟩
theorem Urn.other {s : Sto} {u n : Nat} {k : Int} (U : Urn s u k) (o : O) (hn : n ≠ u) : Urn (s.set n o) u k := by
  obtain ⟨a, b, c, h, r⟩ := U.ex
  exact ⟨a, b, c, by rw [List.getElem?_set_ne hn]; exact h, r⟩
/-- what the urn pulls out of a tuple, of a list of the store -/
theorem one_okS {F : Fn} {id : Nat} (P : PullF F id) {s : Sto} {u n : Nat} {k0 : Int} {ds : List D} (U : Urn s u k0) (hk : k0 ≤ 10 ^ 100) (hn : n ≠ u) (h : s[n]? = some (.lst ds)) (h0 : 0 < ds.length) (h1 : ds.length ≤ 1000000) :
    (runB 2 2 (mOne id F) [.ref u, .ref n] s).wp fun d s' => d ∈ ds ∧ Urn s' u (k0 + 1) ∧ Kp u s s' := by
  simp [runB, mOne, opLen_ref h]
  refine R.wp_mono (P s u k0 ds.length U hk (by omega) (by omega)) fun d s' h2 => ?_
  obtain ⟨x, rfl, x0, x1, U', K⟩ := h2
  obtain ⟨d, hd, e⟩ := ix_inS (K.q.at_ hn h) x0 x1
  rw [e]
  exact ⟨hd, U', K⟩
end Rf
set_option maxHeartbeats 400000
namespace Rf
open PySem PySem.Spec L2
open PyProof.Rows hiding St
/-! ## pairs, read -/
section
variable {env : Ev} {st s : Sto}
@[simp] theorem x_zp (ma : MA) : mZp ma env st = (ma env st).bd fun xs s => match zpD xs s with
  | some l => .ok l s
  | none => .bad := _root_.id rfl
@[simp] theorem x_en (ma : MA) : mEn ma env st = (ma env st).bd fun xs s => match enD xs s with
  | some l => .ok l s
  | none => .bad := _root_.id rfl
@[simp] theorem zp_tt (a b : List D) : zpD [.tup a, .tup b] s = some (zip2D a b, none) := _root_.id rfl
@[simp] theorem zp_ll (a b : List D) : zpD [.lst a, .lst b] s = some (zip2D a b, none) := _root_.id rfl
@[simp] theorem zp_tl (a b : List D) : zpD [.tup a, .lst b] s = some (zip2D a b, none) := _root_.id rfl
@[simp] theorem zp_lt (a b : List D) : zpD [.lst a, .tup b] s = some (zip2D a b, none) := _root_.id rfl
@[simp] theorem zp_ttt (a b c : List D) : zpD [.tup a, .tup b, .tup c] s = some (zip3D a b c, none) := _root_.id rfl
@[simp] theorem en_t (a : List D) : enD [.tup a] s = some (enumD 0 a, none) := _root_.id rfl
@[simp] theorem en_l (a : List D) : enD [.lst a] s = some (enumD 0 a, none) := _root_.id rfl
@[simp] theorem z2_n1 (b : List D) : zip2D [] b = [] := by simp [zip2D]
@[simp] theorem z2_n2 (a : List D) : zip2D a [] = [] := by simp [zip2D]
@[simp] theorem z2_cc (x y : D) (a b : List D) : zip2D (x :: a) (y :: b) = .tup [x, y] :: zip2D a b := by simp [zip2D]
@[simp] theorem e_n (n : Nat) : enumD n [] = [] := _root_.id rfl
@[simp] theorem e_c (n : Nat) (x : D) (a : List D) : enumD n (x :: a) = .tup [.int (n : Nat), x] :: enumD (n + 1) a := _root_.id rfl
theorem cut_to (ds : List D) (k : Nat) (h : k ≤ ds.length) : cutD ds none (some (k : Int)) = ds.take k := by
  unfold cutD
  rw [HT.sIx_nat, HT.sIx_none, Nat.min_eq_left h]
  simp
theorem cut_from (ds : List D) (k : Nat) (h : k ≤ ds.length) : cutD ds (some (k : Int)) none = ds.drop k := by
  unfold cutD
  rw [HT.sIx_nat, HT.sIx_none, Nat.min_eq_left h]
  rw [List.take_of_length_le (by simp)]
/-- a loop by what holds ahead of its k-th turn -/
theorem for_at {g : MG} {b : MS} {all l : List D} (I : Nat → Ev → Sto → Prop) {Q : Fl → Sto → Prop}
    (hs : ∀ k d env st, l[k]? = some d → I k env st → (g d env st).wp fun e s => (b e s).wp fun f s2 => match f with
      | .nx e2 => I (k + 1) e2 s2
      | .ct e2 => I (k + 1) e2 s2
      | .bk e2 => Q (.nx e2) s2
      | .rt d => Q (.rt d) s2)
    (he : ∀ env st, I l.length env st → Q (.nx env) st) (env : Ev) (st : Sto) (h0 : I 0 env st) : (forL g b none all l env st).wp Q := by
  refine for_wp (fun r env st => ∃ k, r = l.drop k ∧ k ≤ l.length ∧ I k env st) ?_ ?_ _ _ _ ⟨0, rfl, Nat.zero_le _, h0⟩
  · rintro d r env st ⟨k, e, hk, hI⟩
    have hl : k < l.length := by
      rcases Nat.lt_or_ge k l.length with h | h
      · exact h
      · rw [List.drop_eq_nil_of_le h] at e; cases e
    rw [List.drop_eq_getElem_cons hl] at e
    cases e
    refine R.wp_mono (hs k _ env st (List.getElem?_eq_getElem hl) hI) fun e s h1 => R.wp_mono h1 fun f s2 h2 => ?_
    cases f with
    | nx e2 => exact ⟨k + 1, rfl, hl, h2⟩
    | ct e2 => exact ⟨k + 1, rfl, hl, h2⟩
    | bk e2 => exact h2
    | rt d => exact h2
  · rintro env st ⟨k, e, hk, hI⟩
    have : k = l.length := by
      have := congrArg List.length e
      simp at this
      omega
    rw [this] at hI
    exact he env st hI
/-- over a list that is told in parts: what holds when some of it is done -/
theorem for_map {α : Type} {f : α → D} {L : List α} {g : MG} {b : MS} {all : List D} (I : List α → Ev → Sto → Prop) {Q : Fl → Sto → Prop}
    (hs : ∀ d1 a d2 env st, L = d1 ++ a :: d2 → I d1 env st → (g (f a) env st).wp fun e s => (b e s).wp fun r s2 => match r with
      | .nx e2 => I (d1 ++ [a]) e2 s2
      | .ct e2 => I (d1 ++ [a]) e2 s2
      | .bk e2 => Q (.nx e2) s2
      | .rt d => Q (.rt d) s2)
    (he : ∀ env st, I L env st → Q (.nx env) st) (env : Ev) (st : Sto) (h0 : I [] env st) : (forL g b none all (L.map f) env st).wp Q := by
  refine for_at (fun k env st => I (L.take k) env st) ?_ ?_ env st (by simpa using h0)
  · intro k d env st hk hI
    rw [List.getElem?_map] at hk
    cases e : L[k]? with
    | none => rw [e] at hk; cases hk
    | some a =>
      rw [e] at hk
      cases hk
      have hl := (List.getElem?_eq_some_iff.mp e).1
      have ea : L[k] = a := (List.getElem?_eq_some_iff.mp e).2
      have e1 : L = L.take k ++ a :: L.drop (k + 1) := by
        rw [← ea, ← List.drop_eq_getElem_cons hl, List.take_append_drop]
      have e2 : L.take (k + 1) = L.take k ++ [a] := by rw [List.take_add_one, e]; rfl
      rw [e2]
      exact hs _ a _ env st e1 hI
  · intro env st hI
    rw [List.length_map, List.take_length] at hI
    exact he env st hI
theorem enumD_at' {α : Type} {f : α → D} {L : List α} {k : Nat} {d : D} (h : (enumD 0 (L.map f))[k]? = some d) : ∃ a, L[k]? = some a ∧ d = .tup [.int (k : Nat), f a] := by
  obtain ⟨x, h1, rfl⟩ := enumD_at h
  rw [List.getElem?_map] at h1
  cases e : L[k]? with
  | none => rw [e] at h1; cases h1
  | some a => rw [e] at h1; cases h1; exact ⟨a, rfl, by rw [Nat.zero_add]⟩
theorem rgI_at {n k : Nat} {d : D} (h : (rgI 0 (n : Int))[k]? = some d) : k < n ∧ d = .int (k : Nat) := by
  have hl := (List.getElem?_eq_some_iff.mp h).1
  rw [rgI_len] at hl
  unfold rgI at h
  rw [List.getElem?_map, List.getElem?_range (by omega)] at h
  cases h
  exact ⟨by omega, by simp⟩
theorem rgI_map (n : Nat) (f : D → D) : (rgI 0 (n : Int)).map f = (List.range n).map fun i => f (.int (i : Nat)) := by
  unfold rgI
  have e0 : ((n : Int) - 0).toNat = n := by omega
  rw [e0, List.map_map]
  simp
/-- an item of a list that is told in parts -/
theorem ix_map {α : Type} (f : α → D) (L : List α) (i : Nat) (a : α) (h : L[i]? = some a) : opIx (.tup (L.map f)) (.int i) s = .ok (f a) s := by
  have hl := (List.getElem?_eq_some_iff.mp h).1
  rw [o_ixT _ _ (by omega) (by simp; omega)]
  have : (L.map f).getD i .non = f a := by
    rw [List.getD_eq_getElem?_getD, List.getElem?_map, h]
    rfl
  rw [show ((i : Int)).toNat = i by omega, this]
@[simp] theorem o_ix2 (a b c : D) (r : List D) : opIx (.tup (a :: b :: c :: r)) (.int 2) s = .ok c s := by
  rw [o_ixT _ _ (by omega) (by simp; omega)]
  rfl
@[simp] theorem o_ix3 (a b c d : D) (r : List D) : opIx (.tup (a :: b :: c :: d :: r)) (.int 3) s = .ok d s := by
  rw [o_ixT _ _ (by omega) (by simp; omega)]
  rfl
@[simp] theorem o_ix4 (a b c d e : D) (r : List D) : opIx (.tup (a :: b :: c :: d :: e :: r)) (.int 4) s = .ok e s := by
  rw [o_ixT _ _ (by omega) (by simp; omega)]
  rfl
theorem opMul_rep (x : D) (k : Nat) (h : k ≤ 1000) : opMul false (.tup [x]) (.int k) s = .ok (.tup (List.replicate k x)) s := by
  have e : (List.replicate ((k : Int)).toNat [x]).flatten = List.replicate k x := by
    rw [show ((k : Int)).toNat = k by omega]
    induction k with
    | zero => rfl
    | succ n ih => rw [List.replicate_succ, List.replicate_succ, List.flatten_cons, ih (by omega)]; rfl
  show (if [x].length ≤ 1000 ∧ (k : Int) ≤ 1000 ∧ -1000 ≤ (k : Int) then R.ok (D.tup (List.replicate ((k : Int)).toNat [x]).flatten) s else .bad) = _
  rw [if_pos ⟨by simp, by omega, by omega⟩, e]
theorem opAdd_lst (a b : List D) (h : a.length + b.length ≤ 10000000) : opAdd false (.lst a) (.lst b) s = .ok (.lst (a ++ b)) s := if_pos (Nat.le_trans h (by decide))
/-- the store has grown -/
def Gr (s s' : Sto) : Prop := s.length ≤ s'.length ∧ ∀ i, i < s.length → s'[i]? = s[i]?
theorem Gr.refl (s : Sto) : Gr s s := ⟨Nat.le_refl _, fun _ _ => rfl⟩
theorem Gr.trans {s s1 s2 : Sto} (h : Gr s s1) (h' : Gr s1 s2) : Gr s s2 := ⟨Nat.le_trans h.1 h'.1, fun i a => (h'.2 i (Nat.lt_of_lt_of_le a h.1)).trans (h.2 i a)⟩
theorem Gr.push (s : Sto) (o : O) : Gr s (s ++ [o]) := ⟨by simp, fun i h => List.getElem?_append_left h⟩
theorem Gr.set {s s' : Sto} (h : Gr s s') {n : Nat} (hn : s.length ≤ n) (o : O) : Gr s (s'.set n o) := ⟨by rw [List.length_set]; exact h.1, fun i a => by
  rw [List.getElem?_set_ne (by omega)]
  exact h.2 i a⟩
theorem Gr.urn {s s' : Sto} (h : Gr s s') {u : Nat} {k : Int} (U : Urn s u k) : Urn s' u k := ⟨by
  obtain ⟨a, b, c, e, r⟩ := U.ex
  exact ⟨a, b, c, by rw [h.2 u U.lt]; exact e, r⟩⟩
theorem opAdd_refL {n : Nat} {a b : List D} (h : s[n]? = some (.lst a)) (hl : a.length + b.length ≤ 10000000) : opAdd true (.ref n) (.lst b) s = .ok (.ref s.length) (s ++ [.lst (a ++ b)]) := by
  show (match lstD (.ref n) s, lstD (.lst b) s with
    | some a, some b => if a.length + b.length ≤ sizeLine then newL true (a ++ b) s else .bad
    | _, _ => .bad) = _
  rw [lstD_ref h]
  exact if_pos (Nat.le_trans hl (by decide))
theorem opAdd_refF {n : Nat} {a b : List D} (h : s[n]? = some (.lst a)) (hl : a.length + b.length ≤ 10000000) : opAdd false (.ref n) (.lst b) s = .ok (.lst (a ++ b)) s := by
  show (match lstD (.ref n) s, lstD (.lst b) s with
    | some a, some b => if a.length + b.length ≤ sizeLine then newL false (a ++ b) s else .bad
    | _, _ => .bad) = _
  rw [lstD_ref h]
  exact if_pos (Nat.le_trans hl (by decide))
@[simp] theorem opTupOf_tup (ds : List D) : opTupOf (.tup ds) s = .ok (.tup ds) s := _root_.id rfl
theorem forL_cons (g : MG) (b : MS) (all : List D) (d : D) (r : List D) : forL g b none all (d :: r) env st = (g d env st).bd fun e s => (b e s).bd fun f s2 => match f with
  | .nx e => forL g b none all r e s2
  | .ct e => forL g b none all r e s2
  | .bk e => .ok (.nx e) s2
  | .rt d => .ok (.rt d) s2 := rfl
theorem forL_nil (g : MG) (b : MS) (all : List D) : forL g b none all [] env st = .ok (.nx env) st := rfl
theorem app_lst (s : Sto) (L : List D) : lstD (.ref s.length) (s ++ [.lst L]) = some L := lstD_ref (app_at s _)
theorem app_app (s : Sto) (L : List D) (y : D) (h : L.length < 1000000) : opApp (.ref s.length) y (s ++ [.lst L]) = .ok .non (s ++ [.lst (L ++ [y])]) := by
  rw [opApp_ref (app_at s _) h]
  simp
theorem wp_eq {α : Type} {r : R α} {d : α} (h : r.wp fun d' s' => d' = d ∧ s' = s) : r = .ok d s := by
  cases r with
  | ok a s' => obtain ⟨rfl, rfl⟩ := (show a = d ∧ s' = s from h); rfl
  | ex => exact h.elim
  | bad => exact h.elim
theorem wp_seq {a b : MS} {Q : Fl → Sto → Prop} (h : (a env st).wp fun f s => match f with
  | .nx e => (b e s).wp Q
  | f => Q f s) : (mSeq a b env st).wp Q := by
  rw [x_seq, wp_bd']
  refine R.wp_mono h fun f s q => ?_
  cases f with
  | nx e => exact q
  | rt d => exact q
  | bk e => exact q
  | ct e => exact q
end
theorem lc_mapA {α : Type} {vs : List Nat} {g : MG} {me : ME} {all : List D} {env : Ev} {st : Sto} {h : α → D} {f : α → D} : ∀ (l : List α) (acc : List D), (∀ a ∈ l, ∃ e, g (h a) (wipeE env vs) st = .ok e st ∧ me e st = .ok (f a) st) → lcL vs g mYes me none all env (l.map h) st acc = .ok (acc ++ l.map f) st
  | [], acc, _ => by simp [lcL, gstB]
  | d :: r, acc, q => by
    obtain ⟨e, h1, h2⟩ := q d (.head _)
    have ih := lc_mapA (all := all) r (acc ++ [f d]) fun d' hd' => q d' (.tail _ hd')
    rw [List.map_cons]
    unfold lcL
    rw [if_pos (show gstB none all st = true from rfl), h1]
    simp [h2, ih]
theorem o_allA {α : Type} {f : α → Bool} {l : List α} {st : Sto} : opBls (fun bs => .bl (bs.all id)) [.lst (l.map fun a => .bl (f a))] st = .ok (.bl (l.all f)) st := by
  have e : (l.map fun a => D.bl (f a)) = (l.map f).map D.bl := by simp
  show (match bls (l.map fun a => D.bl (f a)) with | some bs => R.ok (D.bl (bs.all id)) st | none => .bad) = _
  rw [e, bls_map]
  simp [List.all_map]
theorem o_anyA {α : Type} {f : α → Bool} {l : List α} {st : Sto} : opBls (fun bs => .bl (bs.any id)) [.lst (l.map fun a => .bl (f a))] st = .ok (.bl (l.any f)) st := by
  have e : (l.map fun a => D.bl (f a)) = (l.map f).map D.bl := by simp
  show (match bls (l.map fun a => D.bl (f a)) with | some bs => R.ok (D.bl (bs.any id)) st | none => .bad) = _
  rw [e, bls_map]
  simp [List.any_map]
/-! ## fractions in lowest terms -/
abbrev Q := Int × Int
def qd (p : Q) : D := .tup [.int p.1, .int p.2]
def qn (a b : Int) : Q := (a / ((Nat.gcd a.natAbs b.natAbs : Nat) : Int), b / ((Nat.gcd a.natAbs b.natAbs : Nat) : Int))
def gd (p : Q) : Prop := 0 < p.2 ∧ Nat.gcd p.1.natAbs p.2.natAbs = 1
def padd (p q : Q) : Q := qn (p.1 * q.2 + q.1 * p.2) (p.2 * q.2)
def pmul (p q : Q) : Q := qn (p.1 * q.1) (p.2 * q.2)
def ple (p q : Q) : Bool := decide (p.1 * q.2 ≤ q.1 * p.2)
def bq (A : Nat) (p : Q) : Prop := 0 < p.2 ∧ p.1.natAbs ≤ A ∧ p.2.natAbs ≤ A
theorem qn_gd {a b : Int} (hb : 0 < b) : gd (qn a b) := by
  have hg : 0 < Nat.gcd a.natAbs b.natAbs := Nat.gcd_pos_of_pos_right _ (by omega)
  have da : ((Nat.gcd a.natAbs b.natAbs : Nat) : Int) ∣ a := Int.ofNat_dvd_left.mpr (Nat.gcd_dvd_left _ _)
  have db : ((Nat.gcd a.natAbs b.natAbs : Nat) : Int) ∣ b := Int.ofNat_dvd_left.mpr (Nat.gcd_dvd_right _ _)
  refine ⟨Int.ediv_pos_of_pos_of_dvd hb (by omega) db, ?_⟩
  show Nat.gcd (a / _).natAbs (b / _).natAbs = 1
  rw [Int.natAbs_ediv_of_dvd da, Int.natAbs_ediv_of_dvd db, Int.natAbs_natCast]
  exact Nat.gcd_div_gcd_div_gcd_of_pos_right (by omega)
theorem qn_id {p : Q} (h : gd p) : qn p.1 p.2 = p := by
  unfold qn
  rw [h.2]
  simp
theorem gd_zero {p : Q} (h : gd p) (h0 : p.1 = 0) : p = (0, 1) := by
  obtain ⟨a, b⟩ := p
  obtain ⟨h1, h2⟩ := h
  simp at h0 h1 h2
  subst h0
  simp at h2
  have : b = 1 := by omega
  rw [this]
theorem qn_zero {b : Int} (hb : 0 < b) : qn 0 b = (0, 1) := gd_zero (qn_gd hb) (by simp [qn])
theorem padd_z {p : Q} (h : gd p) : padd p (0, 1) = p := by
  have : padd p (0, 1) = qn p.1 p.2 := by simp [padd]
  rw [this, qn_id h]
theorem z_padd {p : Q} (h : gd p) : padd (0, 1) p = p := by
  have : padd (0, 1) p = qn p.1 p.2 := by simp [padd]
  rw [this, qn_id h]
theorem pmul_z {p q : Q} (hp : 0 < p.2) (hq : 0 < q.2) (h : p.1 = 0 ∨ q.1 = 0) : pmul p q = (0, 1) := by
  have : pmul p q = qn 0 (p.2 * q.2) := by
    rcases h with h | h <;> simp [pmul, h]
  rw [this, qn_zero (Int.mul_pos hp hq)]
theorem one_pmul {p : Q} (h : gd p) : pmul (1, 1) p = p := by
  have : pmul (1, 1) p = qn p.1 p.2 := by simp [pmul]
  rw [this, qn_id h]
def pneg (p : Q) : Q := (-p.1, p.2)
theorem pneg_gd {p : Q} (h : gd p) : gd (pneg p) := ⟨h.1, by simpa [pneg] using h.2⟩
theorem none_pmul {p : Q} (h : gd p) : pmul (-1, 1) p = pneg p := by
  have : pmul (-1, 1) p = qn (pneg p).1 (pneg p).2 := by simp [pmul, pneg]
  rw [this, qn_id (pneg_gd h)]
theorem padd_gd {p q : Q} (hp : 0 < p.2) (hq : 0 < q.2) : gd (padd p q) := qn_gd (Int.mul_pos hp hq)
theorem pmul_gd {p q : Q} (hp : 0 < p.2) (hq : 0 < q.2) : gd (pmul p q) := qn_gd (Int.mul_pos hp hq)
theorem div_le (a b : Int) (hb : 0 < b) (A : Nat) (h : a.natAbs ≤ A) : (a / ((Nat.gcd a.natAbs b.natAbs : Nat) : Int)).natAbs ≤ A := by
  have da : ((Nat.gcd a.natAbs b.natAbs : Nat) : Int) ∣ a := Int.ofNat_dvd_left.mpr (Nat.gcd_dvd_left _ _)
  rw [Int.natAbs_ediv_of_dvd da]
  exact Nat.le_trans (Nat.div_le_self _ _) h
theorem qn_bq {a b : Int} {A : Nat} (hb : 0 < b) (h1 : a.natAbs ≤ A) (h2 : b.natAbs ≤ A) : bq A (qn a b) := by
  refine ⟨(qn_gd hb).1, div_le a b hb A h1, ?_⟩
  show (b / _).natAbs ≤ A
  have db : ((Nat.gcd a.natAbs b.natAbs : Nat) : Int) ∣ b := Int.ofNat_dvd_left.mpr (Nat.gcd_dvd_right _ _)
  rw [Int.natAbs_ediv_of_dvd db]
  exact Nat.le_trans (Nat.div_le_self _ _) h2
theorem mul_b {A B : Nat} {p q : Q} (hp : bq A p) (hq : bq B q) : (p.1 * q.1).natAbs ≤ A * B ∧ (p.2 * q.2).natAbs ≤ A * B ∧ (p.1 * q.2).natAbs ≤ A * B ∧ (q.1 * p.2).natAbs ≤ A * B ∧ 0 < p.2 * q.2 := by
  refine ⟨?_, ?_, ?_, ?_, Int.mul_pos hp.1 hq.1⟩
  · rw [Int.natAbs_mul]; exact Nat.mul_le_mul hp.2.1 hq.2.1
  · rw [Int.natAbs_mul]; exact Nat.mul_le_mul hp.2.2 hq.2.2
  · rw [Int.natAbs_mul]; exact Nat.mul_le_mul hp.2.1 hq.2.2
  · rw [Int.natAbs_mul, Nat.mul_comm]; exact Nat.mul_le_mul hp.2.2 hq.2.1
theorem add_b {A B : Nat} {p q : Q} (hp : bq A p) (hq : bq B q) : (p.1 * q.2 + q.1 * p.2).natAbs ≤ 2 * (A * B) ∧ (p.2 * q.2).natAbs ≤ 2 * (A * B) ∧ 0 < p.2 * q.2 := by
  obtain ⟨h1, h2, h3, h4, h5⟩ := mul_b hp hq
  have := Int.natAbs_add_le (p.1 * q.2) (q.1 * p.2)
  exact ⟨by omega, by omega, h5⟩
theorem pmul_bq {A B : Nat} {p q : Q} (hp : bq A p) (hq : bq B q) : bq (A * B) (pmul p q) := by
  obtain ⟨h1, h2, h3, h4, h5⟩ := mul_b hp hq
  exact qn_bq h5 h1 h2
theorem padd_bq {A B : Nat} {p q : Q} (hp : bq A p) (hq : bq B q) : bq (2 * (A * B)) (padd p q) := by
  obtain ⟨h1, h2, h3⟩ := add_b hp hq
  exact qn_bq h3 h1 h2
theorem bq_mono {A B : Nat} (h : A ≤ B) {p : Q} (q : bq A p) : bq B p := ⟨q.1, Nat.le_trans q.2.1 h, Nat.le_trans q.2.2 h⟩
/-- the sum of products, one after the other -/
def dotA : Q → List Q → List Q → Q
  | acc, x :: xs, y :: ys => dotA (padd acc (pmul x y)) xs ys
  | acc, _, _ => acc
def dotQ (xs ys : List Q) : Q := dotA (0, 1) xs ys
theorem dotA_gd : ∀ (xs ys : List Q) (acc : Q), gd acc → (∀ x ∈ xs, 0 < x.2) → (∀ y ∈ ys, 0 < y.2) → gd (dotA acc xs ys)
  | [], _, acc, h, _, _ => h
  | _ :: _, [], acc, h, _, _ => h
  | x :: xs, y :: ys, acc, h, h1, h2 => dotA_gd xs ys _ (padd_gd h.1 (pmul_gd (h1 x (.head _)) (h2 y (.head _))).1) (fun x hx => h1 x (.tail _ hx)) (fun y hy => h2 y (.tail _ hy))
theorem dotQ_gd {xs ys : List Q} (h1 : ∀ x ∈ xs, 0 < x.2) (h2 : ∀ y ∈ ys, 0 < y.2) : gd (dotQ xs ys) := dotA_gd xs ys _ ⟨by decide, by decide⟩ h1 h2
theorem dotA_zeros : ∀ (k : Nat) (r ys : List Q) (acc : Q), gd acc → (∀ y ∈ ys, 0 < y.2) → k ≤ ys.length → dotA acc (List.replicate k (0, 1) ++ r) ys = dotA acc r (ys.drop k)
  | 0, r, ys, acc, _, _, _ => by simp
  | k + 1, r, [], acc, _, _, h => by simp at h
  | k + 1, r, y :: ys, acc, hg, hy, h => by
    rw [List.replicate_succ, List.cons_append, List.drop_succ_cons]
    show dotA (padd acc (pmul (0, 1) y)) _ ys = _
    rw [pmul_z (p := (0, 1)) (by decide) (hy y (.head _)) (.inl rfl), padd_z hg]
    exact dotA_zeros k r ys acc hg (fun y h => hy y (.tail _ h)) (by simpa using h)
/-- a row with one number at place i -/
def unitQ (u : Q) (n i : Nat) : List Q := List.replicate i (0, 1) ++ u :: List.replicate (n - 1 - i) (0, 1)
theorem dot_unit {u : Q} {n i : Nat} {ys : List Q} {y : Q} (hu : 0 < u.2) (hy : ∀ y ∈ ys, 0 < y.2) (hn : ys.length = n) (h : ys[i]? = some y) : dotQ (unitQ u n i) ys = pmul u y := by
  have hi := (List.getElem?_eq_some_iff.mp h).1
  unfold dotQ unitQ
  rw [dotA_zeros i _ ys _ ⟨by decide, by decide⟩ hy (by omega)]
  have e : ys.drop i = y :: ys.drop (i + 1) := by
    rw [List.drop_eq_getElem_cons hi, (List.getElem?_eq_some_iff.mp h).2]
  rw [e]
  show dotA (padd (0, 1) (pmul u y)) _ _ = _
  have hy0 : 0 < y.2 := hy y (List.mem_of_getElem? h)
  rw [z_padd (pmul_gd hu hy0)]
  have := dotA_zeros (n - 1 - i) [] (ys.drop (i + 1)) (pmul u y) (pmul_gd hu hy0) (fun y h => hy y (List.mem_of_mem_drop h)) (by simp; omega)
  rw [List.append_nil] at this
  rw [this]
  rfl
theorem dotA_bq : ∀ (xs ys : List Q) (acc : Q) (P c k : Nat), bq P acc → (∀ x ∈ xs, ∀ y ∈ ys, bq c (pmul x y)) → ys.length ≤ k → 1 ≤ c → bq (P * (2 * c) ^ k) (dotA acc xs ys)
  | [], _, acc, P, c, k, h, _, _, hc => bq_mono (Nat.le_mul_of_pos_right _ (Nat.pow_pos (by omega))) h
  | _ :: _, [], acc, P, c, k, h, _, _, hc => bq_mono (Nat.le_mul_of_pos_right _ (Nat.pow_pos (by omega))) h
  | x :: xs, y :: ys, acc, P, c, 0, _, _, hk, _ => by simp at hk
  | x :: xs, y :: ys, acc, P, c, k + 1, h, h1, hk, hc => by
    have q := padd_bq h (h1 x (.head _) y (.head _))
    have ih := dotA_bq xs ys _ (2 * (P * c)) c k q (fun x hx y hy => h1 x (.tail _ hx) y (.tail _ hy)) (by simpa using hk) hc
    have e : 2 * (P * c) * (2 * c) ^ k = P * (2 * c) ^ (k + 1) := by
      rw [Nat.pow_succ, Nat.mul_comm ((2 * c) ^ k), ← Nat.mul_assoc, ← Nat.mul_assoc, ← Nat.mul_assoc, Nat.mul_comm P 2]
    rw [e] at ih
    exact ih
/-! ## rows, wishes, lots as data -/
theorem listQ {α : Type} {f : α → D} {P : α → Prop} : ∀ {ds : List D}, (∀ x ∈ ds, ∃ q, x = f q ∧ P q) → ∃ qs : List α, ds = qs.map f ∧ ∀ q ∈ qs, P q
  | [], _ => ⟨[], rfl, nofun⟩
  | d :: ds, h => by
    obtain ⟨q, rfl, hq⟩ := h d (.head _)
    obtain ⟨qs, rfl, hqs⟩ := listQ fun x hx => h x (.tail _ hx)
    exact ⟨q :: qs, rfl, List.forall_mem_cons.mpr ⟨hq, hqs⟩⟩
abbrev rd (r : List Q) : D := .tup (r.map qd)
def wd (w : List Q × Q) : D := .tup [rd w.1, qd w.2]
def ld (n : Int) (ws : List (List Q × Q)) : D := .tup [.int n, .tup (ws.map wd)]
theorem isRat_qd {p : Q} (h : gd p) : isRat (qd p) = true := by
  simp [isRat, qd, h.1, h.2]
theorem isRow_rd {n : Int} {r : List Q} (hn : (r.length : Int) = n) (h : ∀ x ∈ r, gd x) : isRow n (rd r) = true := by
  simp [isRow, hn, rd]
  intro a b hx
  exact isRat_qd (h _ hx)
theorem isWish_wd {n : Int} {w : List Q × Q} (hn : (w.1.length : Int) = n) (h : ∀ x ∈ w.1, gd x) (h2 : gd w.2) : isWish n (wd w) = true := by
  show (isRow n (rd w.1) && isRat (qd w.2)) = true
  rw [isRow_rd hn h, isRat_qd h2]
  rfl
def okW (n : Int) (w : List Q × Q) : Prop := (w.1.length : Int) = n ∧ (∀ x ∈ w.1, gd x) ∧ gd w.2
theorem isLot_ld {n m : Int} {ws : List (List Q × Q)} (h0 : 1 ≤ n ∧ n ≤ 12) (hl : (ws.length : Int) ≤ m) (h : ∀ w ∈ ws, okW n w) : isLot m (ld n ws) = true := by
  have e : (ws.map wd).all (isWish n) = true := by
    rw [List.all_map, List.all_eq_true]
    exact fun w hw => isWish_wd (h w hw).1 (h w hw).2.1 (h w hw).2.2
  simp only [isLot, ld, h0.1, h0.2, List.length_map, hl, e]
  rfl
/-! ## data that may be shown -/
/-- numbers, truths and None in tuples, so wide at most at each depth -/
def shn : List Nat → D → Prop
  | [], d => (∃ b, d = .bl b) ∨ d = .non ∨ ∃ i, d = .int i ∧ -(10 ^ 60) ≤ i ∧ i ≤ 10 ^ 60
  | w :: r, d => ((∃ b, d = .bl b) ∨ d = .non ∨ ∃ i, d = .int i ∧ -(10 ^ 60) ≤ i ∧ i ≤ 10 ^ 60) ∨ ∃ ds, d = .tup ds ∧ ds.length ≤ w ∧ ∀ x ∈ ds, shn r x
def wN : List Nat → Nat
  | [] => 62
  | w :: r => w * (wN r + 2) + 3 + 62
theorem shn_leaf {d : D} (h : (∃ b, d = .bl b) ∨ d = .non ∨ ∃ i, d = .int i ∧ -(10 ^ 60) ≤ i ∧ i ≤ 10 ^ 60) : ∃ p, toP d = some p ∧ p.showable = true ∧ p.hasDict = false ∧ wtP p ≤ 62 ∧ p.depth = 0 := by
  rcases h with ⟨b, rfl⟩ | rfl | ⟨i, rfl, h1, h2⟩
  · exact ⟨.bool b, by simp [toP], by simp [PyData.showable], by simp [PyData.hasDict], by simp [wtP], by simp [PyData.depth]⟩
  · exact ⟨.none, by simp [toP], by simp [PyData.showable], by simp [PyData.hasDict], by simp [wtP], by simp [PyData.depth]⟩
  · exact ⟨.int i, by simp [toP], shwI (by omega) (by omega), by simp [PyData.hasDict], by simp only [wtP]; rw [if_pos (by omega)]; exact Nat.le_refl _, by simp [PyData.depth]⟩
theorem shn_all {W m : Nat} : ∀ {ds : List D}, (∀ x ∈ ds, ∃ p, toP x = some p ∧ p.showable = true ∧ p.hasDict = false ∧ wtP p ≤ W ∧ p.depth ≤ m) →
    ∃ ps, toPs ds = some ps ∧ PyData.showableAll ps = true ∧ PyData.hasDictAll ps = false ∧ wtPs ps ≤ ds.length * (W + 2) ∧ PyData.depthAll ps ≤ m
  | [], _ => ⟨[], by simp [toPs], by simp [PyData.showableAll], by simp [PyData.hasDictAll], by simp [wtPs], by simp [PyData.depthAll]⟩
  | d :: ds, h => by
    obtain ⟨p, a1, a2, a3, a4, a5⟩ := h d (.head _)
    obtain ⟨ps, b1, b2, b3, b4, b5⟩ := shn_all fun x hx => h x (.tail _ hx)
    refine ⟨p :: ps, by simp [toPs, a1, b1], by simp [PyData.showableAll, a2, b2], by simp [PyData.hasDictAll, a3, b3], ?_, by simp [PyData.depthAll]; omega⟩
    simp only [wtPs, List.length_cons, Nat.succ_mul]
    omega
theorem shn_toP : ∀ {l : List Nat} {d : D}, shn l d → ∃ p, toP d = some p ∧ p.showable = true ∧ p.hasDict = false ∧ wtP p ≤ wN l ∧ p.depth ≤ l.length
  | [], d, h => by
    obtain ⟨p, a1, a2, a3, a4, a5⟩ := shn_leaf h
    exact ⟨p, a1, a2, a3, a4, by omega⟩
  | w :: r, d, h => by
    rcases h with h | ⟨ds, rfl, h1, h2⟩
    · obtain ⟨p, a1, a2, a3, a4, a5⟩ := shn_leaf h
      exact ⟨p, a1, a2, a3, by simp only [wN]; omega, by omega⟩
    · obtain ⟨ps, b1, b2, b3, b4, b5⟩ := shn_all fun x hx => shn_toP (h2 x hx)
      refine ⟨.tuple ps, by simp [toP, b1], by simp [PyData.showable, b2], by simp [PyData.hasDict, b3], ?_, by simp only [PyData.depth, List.length_cons]; omega⟩
      simp only [wtP, wN]
      have := Nat.mul_le_mul_right (wN r + 2) h1
      omega
theorem shn_repr {l : List Nat} {d : D} (h : shn l d) (hw : wN l ≤ 16000000) (hl : l.length ≤ 60) : ∃ x, ∀ s, opRepr [d] s = .ok (.str x) s := by
  obtain ⟨p, a1, a2, a3, a4, a5⟩ := shn_toP h
  refine ⟨p.shown, fun s => ?_⟩
  have e : toPd d s = some p := by
    cases d <;> first | exact a1 | (exfalso; simp [toP] at a1)
  show (match toPd d s with | some p => if shownB p then R.ok (D.str p.shown) s else .bad | none => .bad) = _
  rw [e]
  show (if shownB p = true then R.ok (D.str p.shown) s else .bad) = _
  rw [if_pos (shwB_ok _)]
  unfold shwB
  simp only [Bool.and_eq_true, Bool.not_eq_true', decide_eq_true_eq]
  exact ⟨⟨⟨a2, a3⟩, by omega⟩, by omega⟩
/-! ## two rows compared -/
def qp (p : Q) : PyData := .tuple [.int p.1, .int p.2]
theorem toPs_q : ∀ r : List Q, toPs (r.map qd) = some (r.map qp)
  | [] => by simp [toPs]
  | p :: r => by simp [toPs, toP, qd, qp, toPs_q r]
theorem eqv_q (p q : Q) : PyData.eqv (qp p) (qp q) = decide (p = q) := by
  obtain ⟨a, b⟩ := p
  obtain ⟨c, d⟩ := q
  have e : ∀ i j : Int, PyData.eqv (.int i) (.int j) = decide (i = j) := fun i j => by
    simp [PyData.eqv]
    rfl
  simp [qp, PyData.eqv, PyData.eqvAll, e]
  rfl
theorem eqvAll_q : ∀ a b : List Q, PyData.eqvAll (a.map qp) (b.map qp) = decide (a = b)
  | [], [] => by simp [PyData.eqvAll]
  | [], _ :: _ => by simp [PyData.eqvAll]
  | _ :: _, [] => by simp [PyData.eqvAll]
  | x :: a, y :: b => by simp [PyData.eqvAll, eqv_q, eqvAll_q a b]
theorem lay_q : ∀ a : List Q, PyData.canLayAll0 (a.map qp) = true ∧ PyData.depthAll (a.map qp) ≤ 1
  | [] => by simp [PyData.canLayAll0, PyData.depthAll]
  | x :: a => by
    obtain ⟨h1, h2⟩ := lay_q a
    refine ⟨by simp [PyData.canLayAll0, PyData.canLay0, qp, h1], ?_⟩
    have e : (qp x).depth = 1 := by simp [qp, PyData.depth, PyData.depthAll]
    simp only [List.map_cons, PyData.depthAll, e]
    omega
theorem eq_rd {s : Sto} (a b : List Q) : opEq false (rd a) (rd b) s = .ok (.bl (decide (a = b))) s := by
  cases b with
  | nil =>
    show R.ok (D.bl (a.map qd).isEmpty) s = _
    cases a <;> simp
  | cons y b =>
    show opEqP false (rd a) (rd (y :: b)) s = _
    have e1 : toPd (rd a) s = some (.tuple (a.map qp)) := by
      show toP (.tup (a.map qd)) = _
      simp [toP, toPs_q]
    have e2 : toPd (rd (y :: b)) s = some (.tuple ((y :: b).map qp)) := by
      show toP (.tup ((y :: b).map qd)) = _
      rw [toP, toPs_q]
    obtain ⟨l1, d1⟩ := lay_q a
    obtain ⟨l2, d2⟩ := lay_q (y :: b)
    show (match toPd (rd a) s, toPd (rd (y :: b)) s with
      | some p, some q => if p.canLay0 && q.canLay0 && decide (min p.depth q.depth ≤ 64) then R.ok (D.bl (PyData.eqv p q)) s else .bad
      | _, _ => .bad) = _
    rw [e1, e2]
    have d3 : (PyData.tuple (a.map qp)).depth ≤ 64 := by simp only [PyData.depth]; omega
    have c1 : (PyData.tuple (a.map qp)).canLay0 = true := by simpa [PyData.canLay0] using l1
    have c2 : (PyData.tuple ((y :: b).map qp)).canLay0 = true := by
      show PyData.canLayAll0 ((y :: b).map qp) = true
      exact l2
    show (if (PyData.tuple (a.map qp)).canLay0 && (PyData.tuple ((y :: b).map qp)).canLay0 && decide (min (PyData.tuple (a.map qp)).depth (PyData.tuple ((y :: b).map qp)).depth ≤ 64) then R.ok (D.bl (PyData.eqv (.tuple (a.map qp)) (.tuple ((y :: b).map qp)))) s else .bad) = _
    rw [if_pos]
    · have : PyData.eqv (.tuple (a.map qp)) (.tuple ((y :: b).map qp)) = PyData.eqvAll (a.map qp) ((y :: b).map qp) := by simp only [PyData.eqv]
      rw [this, eqvAll_q]
    · rw [c1, c2]
      simp only [Bool.true_and, decide_eq_true_eq]
      omega
/-- a list of fractions in the store still stands -/
theorem beqs_q : ∀ r : List Q, D.beqs (r.map qd) (r.map qd) = true
  | [] => by simp [D.beqs]
  | p :: r => by simp [D.beqs, D.beq, qd, beqs_q r]
theorem atB_q {s : Sto} {n : Nat} {r : List Q} (h : s[n]? = some (.lst (r.map qd))) : atB n (r.map qd) s = true := by
  unfold atB
  rw [h]
  exact beqs_q r
theorem isRat_inv {d : D} (h : isRat d = true) : ∃ p : Q, d = qd p ∧ gd p := by
  unfold isRat at h
  split at h
  · rename_i a b
    rw [Bool.and_eq_true, decide_eq_true_eq, decide_eq_true_eq] at h
    exact ⟨(a, b), rfl, h.1, h.2⟩
  · cases h
theorem isRow_inv {n : Int} {d : D} (h : isRow n d = true) : ∃ r : List Q, d = rd r ∧ (r.length : Int) = n ∧ ∀ x ∈ r, gd x := by
  unfold isRow at h
  split at h
  · rename_i ds
    rw [Bool.and_eq_true, decide_eq_true_eq, List.all_eq_true] at h
    obtain ⟨r, rfl, hr⟩ := listQ (f := qd) (P := gd) fun x hx => isRat_inv (h.2 x hx)
    exact ⟨r, rfl, by simpa using h.1, hr⟩
  · cases h
theorem pl_bq {L : Nat} {A : Nat} {p : Q} (h : pl L (A : Int) (qd p)) (hp : 0 < p.2) : bq A p := by
  have h2 := (pl_tup.mp h).2
  have a1 := pl_int.mp (h2 _ (.head _))
  have a2 := pl_int.mp (h2 _ (.tail _ (.head _)))
  exact ⟨hp, by omega, by omega⟩
/-- it may be shown, its text no longer -/
def shw (W m : Nat) (d : D) : Prop := ∃ p, toP d = some p ∧ p.showable = true ∧ p.hasDict = false ∧ wtP p ≤ W ∧ p.depth ≤ m
theorem shn_shw {l : List Nat} {d : D} (h : shn l d) : shw (wN l) l.length d := shn_toP h
theorem shw_all {W m n : Nat} {ds : List D} (hn : ds.length ≤ n) (h : ∀ x ∈ ds, shw W m x) : shw (n * (W + 2) + 3) (m + 1) (.tup ds) := by
  obtain ⟨ps, b1, b2, b3, b4, b5⟩ := shn_all h
  refine ⟨.tuple ps, by simp [toP, b1], by simp [PyData.showable, b2], by simp [PyData.hasDict, b3], ?_, by simp only [PyData.depth]; omega⟩
  simp only [wtP]
  have := Nat.mul_le_mul_right (W + 2) hn
  omega
theorem shw_two {W1 W2 m : Nat} {a b : D} (h1 : shw W1 m a) (h2 : shw W2 m b) : shw (W1 + W2 + 7) (m + 1) (.tup [a, b]) := by
  obtain ⟨p, a1, a2, a3, a4, a5⟩ := h1
  obtain ⟨q, b1, b2, b3, b4, b5⟩ := h2
  exact ⟨.tuple [p, q], by simp [toP, toPs, a1, b1], by simp [PyData.showable, PyData.showableAll, a2, b2], by simp [PyData.hasDict, PyData.hasDictAll, a3, b3], by simp only [wtP, wtPs]; omega, by simp only [PyData.depth, PyData.depthAll]; omega⟩
theorem shw_three {W1 W2 W3 m : Nat} {a b c : D} (h1 : shw W1 m a) (h2 : shw W2 m b) (h3 : shw W3 m c) : shw (W1 + W2 + W3 + 9) (m + 1) (.tup [a, b, c]) := by
  obtain ⟨p, a1, a2, a3, a4, a5⟩ := h1
  obtain ⟨q, b1, b2, b3, b4, b5⟩ := h2
  obtain ⟨r, c1, c2, c3, c4, c5⟩ := h3
  exact ⟨.tuple [p, q, r], by simp [toP, toPs, a1, b1, c1], by simp [PyData.showable, PyData.showableAll, a2, b2, c2], by simp [PyData.hasDict, PyData.hasDictAll, a3, b3, c3], by simp only [wtP, wtPs]; omega, by simp only [PyData.depth, PyData.depthAll]; omega⟩
theorem shw_mono {W W' m m' : Nat} {d : D} (h : shw W m d) (hW : W ≤ W') (hm : m ≤ m') : shw W' m' d := by
  obtain ⟨p, a1, a2, a3, a4, a5⟩ := h
  exact ⟨p, a1, a2, a3, Nat.le_trans a4 hW, Nat.le_trans a5 hm⟩
theorem shw_repr {W m : Nat} {d : D} (h : shw W m d) (hw : W ≤ 16000000) (hl : m ≤ 60) : ∃ x, ∀ s, opRepr [d] s = .ok (.str x) s := by
  obtain ⟨p, a1, a2, a3, a4, a5⟩ := h
  refine ⟨p.shown, fun s => ?_⟩
  have e : toPd d s = some p := by
    cases d <;> first | exact a1 | (exfalso; simp [toP] at a1)
  show (match toPd d s with | some p => if shownB p then R.ok (D.str p.shown) s else .bad | none => .bad) = _
  rw [e]
  show (if shownB p = true then R.ok (D.str p.shown) s else .bad) = _
  rw [if_pos (shwB_ok _)]
  unfold shwB
  simp only [Bool.and_eq_true, Bool.not_eq_true', decide_eq_true_eq]
  exact ⟨⟨⟨a2, a3⟩, by omega⟩, by omega⟩
theorem shn_num {l : List Nat} {i : Int} (h1 : -(10 ^ 60) ≤ i) (h2 : i ≤ 10 ^ 60) : shn l (.int i) := by
  cases l with
  | nil => exact .inr (.inr ⟨i, rfl, h1, h2⟩)
  | cons => exact .inl (.inr (.inr ⟨i, rfl, h1, h2⟩))
theorem shn_bl {l : List Nat} {b : Bool} : shn l (.bl b) := by
  cases l with
  | nil => exact .inl ⟨b, rfl⟩
  | cons => exact .inl (.inl ⟨b, rfl⟩)
theorem shn_non {l : List Nat} : shn l .non := by
  cases l with
  | nil => exact .inr (.inl rfl)
  | cons => exact .inl (.inr (.inl rfl))
theorem shn_tup {w : Nat} {r : List Nat} {ds : List D} (h : ds.length ≤ w) (h2 : ∀ x ∈ ds, shn r x) : shn (w :: r) (.tup ds) := .inr ⟨ds, rfl, h, h2⟩
theorem bq_int {A : Nat} {p : Q} (h : bq A p) (hA : A ≤ 10 ^ 60) : (-(10 ^ 60) ≤ p.1 ∧ p.1 ≤ 10 ^ 60) ∧ -(10 ^ 60) ≤ p.2 ∧ p.2 ≤ 10 ^ 60 := by
  obtain ⟨h0, h1, h2⟩ := h
  refine ⟨⟨by omega, by omega⟩, by omega, by omega⟩
theorem shn_qd {A : Nat} {r : List Nat} {p : Q} (h : bq A p) (hA : A ≤ 10 ^ 60) : shn (2 :: r) (qd p) := by
  obtain ⟨⟨h1, h2⟩, h3, h4⟩ := bq_int h hA
  refine shn_tup (by simp) fun x hx => ?_
  simp at hx
  rcases hx with rfl | rfl
  · exact shn_num h1 h2
  · exact shn_num h3 h4
theorem shn_rd {A w : Nat} {r : List Nat} {q : List Q} (hl : q.length ≤ w) (h : ∀ p ∈ q, bq A p) (hA : A ≤ 10 ^ 60) : shn (w :: 2 :: r) (rd q) := shn_tup (by simpa using hl) fun x hx => by
  obtain ⟨p, hp, rfl⟩ := List.mem_map.mp hx
  exact shn_qd (h p hp) hA
theorem shn_wd {A w : Nat} {r : List Nat} {q : List Q × Q} (hl : q.1.length ≤ w) (h : ∀ p ∈ q.1, bq A p) (h2 : bq A q.2) (hA : A ≤ 10 ^ 60) (hw : 2 ≤ w) : shn (2 :: w :: 2 :: r) (wd q) := shn_tup (by simp) fun x hx => by
  simp at hx
  rcases hx with rfl | rfl
  · exact shn_rd hl h hA
  · obtain ⟨⟨h1, h2⟩, h3, h4⟩ := bq_int h2 hA
    refine shn_tup (by simp; omega) fun x hx => ?_
    simp at hx
    rcases hx with rfl | rfl
    · exact shn_num h1 h2
    · exact shn_num h3 h4
theorem shn_ld {A w m : Nat} {r : List Nat} {n : Int} {ws : List (List Q × Q)} (hn : 0 ≤ n ∧ n ≤ 1000) (hl : ws.length ≤ m) (h : ∀ q ∈ ws, q.1.length ≤ w ∧ (∀ p ∈ q.1, bq A p) ∧ bq A q.2) (hA : A ≤ 10 ^ 60) (hw : 2 ≤ w) : shn (2 :: m :: 2 :: w :: 2 :: r) (ld n ws) := shn_tup (by simp) fun x hx => by
  simp at hx
  rcases hx with rfl | rfl
  · exact shn_num (by omega) (by omega)
  · refine shn_tup (by simpa using hl) fun x hx => ?_
    obtain ⟨p, hp, rfl⟩ := List.mem_map.mp hx
    exact shn_wd (h p hp).1 (h p hp).2.1 (h p hp).2.2 hA hw
/-- the same datum shown twice -/
@[simp] theorem o_neSame (x : Str) {s : Sto} : opEq true (.str x) (.str x) s = .ok (.bl false) s := by
  show R.ok (D.bl (!decide (x = x))) s = _
  rw [decide_eq_true rfl]
  rfl
end Rf
set_option maxHeartbeats 400000
namespace Rf
open PySem PySem.Spec L2
open PyProof.Rows hiding St
/-! ## the urn of the laws about plants -/
def mPull2 (c1 c2 c3 c4 c5 c6 : Int) : MS := (mSeq (mIfS (mTest (mOp2 (opCmp fun i j => decide (j < i)) (mOp2 opIx (mVar 0) (mCst (.int 0))) (mCst (.int 0))))
    (mSeq (mAsg (gTp 2 (gCons (gSub (mVar 0) (mCst (.int 0))) (gCons (gNm 3) gNil))) (mOpN opDm (mCons (mOp2 opIx (mVar 0) (mCst (.int 0))) (mCons (mVar 1) mNil))))
    (mRet (mVar 3)))
    mPass)
    (mSeq (mAsg (gSub (mVar 0) (mCst (.int 2))) (mOp2 (opAdd false) (mOp2 opIx (mVar 0) (mCst (.int 2))) (mCst (.int 1))))
    (mSeq (mAsg (gNm 2) (mOp2 opMod (mOpN opInt (mCons (mOp2 (opAdd false) (mOp2 opIx (mVar 0) (mCst (.int 1))) (mOp2 (opMul false) (mCst (.int c1)) (mOp2 opIx (mVar 0) (mCst (.int 2))))) mNil)) (mCst (.int c2))))
    (mSeq (mAsg (gSub (mVar 0) (mCst (.int 1))) (mOp2 opMod (mOpN opInt (mCons (mOp2 (opAdd false) (mOp2 (opMul false) (mVar 2) (mOp2 (opAdd false) (mOp2 opMod (mOpN opInt (mCons (mVar 2) mNil)) (mCst (.int c3))) (mCst (.int c4)))) (mOp2 (opMul false) (mCst (.int c5)) (mOp2 opIx (mVar 0) (mCst (.int 2))))) mNil)) (mCst (.int c2))))
    (mRet (mOp2 opMod (mOpN opInt (mCons (mOp2 opDiv (mOp2 opIx (mVar 0) (mCst (.int 1))) (mCst (.int c6))) mNil)) (mVar 1)))))))
theorem pull2_ok {c1 c2 c3 c4 c5 c6 : Int} (q1 : 0 < c1 ∧ c1 < 4294967296) (q2 : 0 < c2 ∧ c2 < 4294967296) (q3 : 0 < c3 ∧ c3 < 4294967296) (q4 : 0 ≤ c4 ∧ c4 < 4294967296) (q5 : 0 ≤ c5 ∧ c5 < 4294967296) (q6 : 0 < c6 ∧ c6 < 4294967296) {s : Sto} {u : Nat} {k0 t : Int} (U : Urn s u k0) (hk : k0 ≤ 10 ^ 100) (ht : 0 < t) (ht2 : t ≤ 10 ^ 300) :
    (runB 2 4 (mPull2 c1 c2 c3 c4 c5 c6) [.ref u, .int t] s).wp fun d s' => ∃ x, d = .int x ∧ 0 ≤ x ∧ x < t ∧ Urn s' u (k0 + 1) ∧ Kp u s s' := by
  obtain ⟨a, seed, k, hu, ha, h1, h2, h3, h4⟩ := U.ex
  obtain ⟨q1, q1'⟩ := q1
  obtain ⟨q2, q2'⟩ := q2
  obtain ⟨q3, q3'⟩ := q3
  obtain ⟨q4, q4'⟩ := q4
  obtain ⟨q5, q5'⟩ := q5
  obtain ⟨q6, q6'⟩ := q6
  have hs := set_at hu
  have ix1 := fun (ds : List D) (i : Int) => o_ixS (i := i) (hs (.lst ds))
  have st1 := fun (ds : List D) (i : Int) (d : D) => setIx_S (i := i) (d := d) (hs (.lst ds))
  by_cases h : 0 < a
  · simp (disch := first | omega | (simp; done) | (simp; omega)) [runB, mPull2, o_ixS hu, h, setIx_S hu]
    exact ⟨Int.emod_nonneg _ (by omega), Int.emod_lt_of_pos _ ht, ⟨_, _, _, hs _, Int.ediv_nonneg ha (by omega), h1, h2, h3, by omega⟩, Kp.set u s _⟩
  · have m1 : mulB c1 (k + 1) = true := mulB_of _ _ (by omega) (by omega) (by omega) (by omega)
    have m2 : mulB c5 (k + 1) = true := mulB_of _ _ (by omega) (by omega) (by omega) (by omega)
    have p1 := Int.emod_nonneg (seed + c1 * (k + 1)) (show c2 ≠ 0 by omega)
    have p2 := Int.emod_lt_of_pos (seed + c1 * (k + 1)) (show 0 < c2 by omega)
    have p3 := Int.emod_nonneg ((seed + c1 * (k + 1)) % c2) (show c3 ≠ 0 by omega)
    have p4 := Int.emod_lt_of_pos ((seed + c1 * (k + 1)) % c2) (show 0 < c3 by omega)
    have m3 : mulB ((seed + c1 * (k + 1)) % c2) ((seed + c1 * (k + 1)) % c2 % c3 + c4) = true := mulB_of _ _ (by omega) (by omega) (by omega) (by omega)
    have p5 := Int.emod_nonneg ((seed + c1 * (k + 1)) % c2 * ((seed + c1 * (k + 1)) % c2 % c3 + c4) + c5 * (k + 1)) (show c2 ≠ 0 by omega)
    have p6 := Int.emod_lt_of_pos ((seed + c1 * (k + 1)) % c2 * ((seed + c1 * (k + 1)) % c2 % c3 + c4) + c5 * (k + 1)) (show 0 < c2 by omega)
    simp (disch := first | omega | (simp; done) | (simp; omega)) [runB, mPull2, o_ixS hu, h, setIx_S hu, ix1, st1, o_mul' m1, o_mul' m2, o_mul' m3]
    exact ⟨Int.emod_nonneg _ (by omega), Int.emod_lt_of_pos _ ht, ⟨_, _, _, hs _, by omega, p5, by omega, by omega, by omega⟩, Kp.set u s _⟩
def mUrn2 (c1 c2 c3 c4 c5 c6 c7 c8 c9 c10 e1 e2 : Int) : MS := (mSeq (mAsg (gNm 2) (mOp2 (opAdd false) (mCst (.int c1)) (mOp2 (opMul false) (mCst (.int c2)) (mVar 1))))
    (mSeq (mFor (gNm 3) (mIt (mSl false (mVar 0) none (some (mCst (.int c3)))))
    (mAsg (gNm 2) (mOp2 opMod (mOpN opInt (mCons (mOp2 (opAdd false) (mOp2 (opAdd false) (mOp2 (opMul false) (mVar 2) (mCst (.int c4))) (mOp2 opMod (mOpN opInt (mCons (mVar 3) mNil)) (mCst (.int c5)))) (mCst (.int c6))) mNil)) (mCst (.int c7)))))
    (mSeq (mAsg (gNm 4) (mIf (mTest (mOp2 (opCmp fun i j => decide (i < j)) (mVar 1) (mOpN (un1 opLen) (mCons (mVar 0) mNil)))) (mOpN opInt (mCons (mOp2 opIx (mVar 0) (mVar 1)) mNil)) (mCst (.int 0))))
    (mSeq (mAsg (gNm 2) (mOp2 opMod (mOpN opInt (mCons (mOp2 (opAdd false) (mOp2 (opAdd false) (mOp2 (opMul false) (mVar 2) (mCst (.int c8))) (mOp2 (opMul false) (mOp2 opMod (mOpN opInt (mCons (mVar 4) mNil)) (mCst (.int c5))) (mCst (.int c9)))) (mCst (.int c10))) mNil)) (mCst (.int c7))))
    (mRet (mOpN (opLst true) (mCons (mIf (mOrT (mTest (mOp2 (opCmp fun i j => decide (i < j)) (mVar 4) (mCst (.int 0)))) (mTest (mOp2 (opCmp fun i j => decide (j ≤ i)) (mVar 4) (mOp2 opPow (mCst (.int e1)) (mCst (.int e2)))))) (mOpN opAbs (mCons (mVar 4) mNil)) (mCst (.int 0))) (mCons (mVar 2) (mCons (mCst (.int 0)) mNil)))))))))
theorem urn2_ok {c1 c2 c3 c4 c5 c6 c7 c8 c9 c10 e1 e2 : Int} (q1 : 0 ≤ c1 ∧ c1 < 4294967296) (q2 : 0 ≤ c2 ∧ c2 < 4294967296) (q4 : 0 < c4 ∧ c4 < 4294967296) (q5 : 0 < c5 ∧ c5 < 4294967296) (q7 : 0 < c7 ∧ c7 < 4294967296) (q8 : 0 < c8 ∧ c8 < 4294967296) (q9 : 0 ≤ c9 ∧ c9 < 4294967296) (qe : 0 ≤ e1 ∧ e1 < 100000) (qe2 : 0 ≤ e2 ∧ e2 ≤ 100)
    {s : Sto} {ns : List Int} {t : Nat} (ht : t ≤ 1000000) :
    (runB 2 5 (mUrn2 c1 c2 c3 c4 c5 c6 c7 c8 c9 c10 e1 e2) [.ro (ns.map .int), .int t] s).wp fun d s' => d = .ref s.length ∧ Urn s' s.length 0 ∧ ∃ x, s' = s ++ [x] := by
  obtain ⟨q1, q1'⟩ := q1
  obtain ⟨q2, q2'⟩ := q2
  obtain ⟨q4, q4'⟩ := q4
  obtain ⟨q5, q5'⟩ := q5
  obtain ⟨q7, q7'⟩ := q7
  obtain ⟨q8, q8'⟩ := q8
  obtain ⟨q9, q9'⟩ := q9
  obtain ⟨qe, qe'⟩ := qe
  obtain ⟨qf, qf'⟩ := qe2
  have m1 : mulB c2 t = true := mulB_of _ _ (by omega) (by omega) (by omega) (by omega)
  have p0 : 0 ≤ c2 * (t : Int) := Int.mul_nonneg q2 (by omega)
  have p1 : c2 * (t : Int) ≤ 4294967296 * 1000000 := Int.mul_le_mul (by omega) (by omega) (by omega) (by omega)
  show (R.bd (mSeq _ _ [some (.ro (ns.map .int)), some (.int t), none, none, none] s) _).wp _
  rw [wp_bd']
  refine wp_seq (R.wp_mono (Q := fun f s1 => f = .nx [some (.ro (ns.map .int)), some (.int t), some (.int (c1 + c2 * t)), none, none] ∧ s1 = s) ?_ ?_)
  · simp [o_mul' m1]
  rintro _ s ⟨rfl, rfl⟩
  refine wp_seq (R.wp_mono (Q := fun f s1 => ∃ (seed : Int) (z : Option D), f = .nx [some (.ro (ns.map .int)), some (.int t), some (.int seed), z, none] ∧ (0 ≤ seed ∧ seed ≤ 4294967296 * 1000001) ∧ s1 = s) ?_ ?_)
  · rw [x_for]
    simp only [x_it, x_sl, x_varS, x_var0, x_partN, x_partS, x_cst, R.bd_ok, o_slR, n_f, i_lst]
    refine for_wp (fun l env st => st = s ∧ (∀ d ∈ l, ∃ i, d = .int i) ∧ ∃ (seed : Int) (z : Option D), env = [some (.ro (ns.map .int)), some (.int t), some (.int seed), z, none] ∧ 0 ≤ seed ∧ seed ≤ 4294967296 * 1000001) ?_ ?_ _ _ _ ⟨rfl, ?_, _, _, rfl, by omega, by omega⟩
    · rintro d r env st ⟨rfl, hi, seed, z, rfl, h1, h2⟩
      obtain ⟨i, rfl⟩ := hi _ (.head _)
      have m2 : mulB seed c4 = true := mulB_of _ _ (by omega) (by omega) (by omega) (by omega)
      simp (disch := omega) [o_mul' m2]
      refine ⟨fun d hd => hi d (.tail _ hd), Int.emod_nonneg _ (by omega), ?_⟩
      have := Int.emod_lt_of_pos (seed * c4 + i % c5 + c6) q7
      omega
    · rintro env st ⟨rfl, -, seed, z, rfl, h1, h2⟩
      exact ⟨seed, z, rfl, ⟨h1, h2⟩, rfl⟩
    · intro d hd
      obtain ⟨i, -, e⟩ := List.mem_map.mp (cutD_mem hd)
      exact ⟨i, e.symm⟩
  rintro _ s ⟨seed, z, rfl, ⟨h1, h2⟩, rfl⟩
  refine wp_seq (R.wp_mono (Q := fun f s1 => ∃ o : Int, f = .nx [some (.ro (ns.map .int)), some (.int t), some (.int seed), z, some (.int o)] ∧ s1 = s) ?_ ?_)
  · by_cases h : t < ns.length
    · have e : opIx (.ro (ns.map .int)) (.int t) s = .ok (.int (ns.getD t 0)) s := by
        rw [o_ixR _ _ (by omega) (by simpa using h)]
        simp [h]
      simp [h, e]
    · simp [h]
  rintro _ s ⟨o, rfl, rfl⟩
  have m2 : mulB seed c8 = true := mulB_of _ _ (by omega) (by omega) (by omega) (by omega)
  have p2 := Int.emod_nonneg o (show c5 ≠ 0 by omega)
  have p3 := Int.emod_lt_of_pos o q5
  have m3 : mulB (o % c5) c9 = true := mulB_of _ _ (by omega) (by omega) (by omega) (by omega)
  have g1 := Int.emod_nonneg (seed * c8 + o % c5 * c9 + c10) (show c7 ≠ 0 by omega)
  have g2 := Int.emod_lt_of_pos (seed * c8 + o % c5 * c9 + c10) q7
  have cs : ∀ b : Int, (if o < 0 then R.ok true s else R.ok (decide (b ≤ o)) s) = R.ok (decide (o < 0) || decide (b ≤ o)) s := fun b => by
    by_cases h : o < 0 <;> simp [h]
  simp (disch := omega) [o_mul' m2, o_mul' m3, cs]
  split
  · simp
    refine ⟨⟨_, _, _, app_at _ _, ?_, g1, by omega, by omega, by omega⟩⟩
    split <;> omega
  · simp
    exact ⟨⟨_, _, _, app_at _ _, by omega, g1, by omega, by omega, by omega⟩⟩
/-! ### Euclid by a for that breaks -/
theorem gcd_for {g : MG} {b : MS} {all : List D} {env : Option D → Nat → Nat → Ev} {st : Sto} (hg : ∀ d z x y, g d (env z x y) st = .ok (env (some d) x y) st)
    (h0 : ∀ z x, b (env z x 0) st = .ok (.bk (env z x 0)) st) (hm : ∀ z x y, 0 < y → b (env z x y) st = .ok (.nx (env z y (x % y))) st) :
    ∀ (k : Nat) (l : List D) (z : Option D) (x y : Nat), y < 2 ^ k → 2 * k + 1 ≤ l.length → ∃ z', forL g b none all l (env z x y) st = .ok (.nx (env z' (Nat.gcd x y) 0)) st := by
  have stop : ∀ (d : D) (l : List D) (z : Option D) (x : Nat), ∃ z', forL g b none all (d :: l) (env z x 0) st = .ok (.nx (env z' (Nat.gcd x 0) 0)) st := fun d l z x => ⟨some d, by
    rw [forL_cons, hg, R.bd_ok, h0]
    simp⟩
  have go : ∀ (d : D) (l : List D) (z : Option D) (x y : Nat), 0 < y → forL g b none all (d :: l) (env z x y) st = forL g b none all l (env (some d) y (x % y)) st := fun d l z x y h => by
    rw [forL_cons, hg, R.bd_ok, hm _ _ _ h]
    rfl
  have gr : ∀ a b : Nat, Nat.gcd a b = Nat.gcd b (a % b) := fun a b => by rw [Nat.gcd_comm a b, Nat.gcd_rec b a, Nat.gcd_comm]
  intro k
  induction k with
  | zero =>
    intro l z x y hy hl
    have : y = 0 := by simpa using hy
    subst this
    cases l with
    | nil => simp at hl
    | cons d l => exact stop d l z x
  | succ k ih =>
    intro l z x y hy hl
    match l, hl with
    | [], hl => simp at hl
    | [_], hl => simp at hl
    | d1 :: d2 :: l, hl =>
      by_cases c0 : y = 0
      · subst c0
        exact stop d1 _ z x
      · rw [go d1 _ z x y (by omega), gr x y]
        by_cases c1 : x % y = 0
        · rw [c1]
          exact stop d2 _ _ y
        · rw [go d2 _ _ y (x % y) (by omega), gr y (x % y)]
          have := mod_half (a := x) (b := y) (by omega) (by omega)
          exact ih l _ _ _ (by rw [Nat.pow_succ] at hy; omega) (by simp at hl; omega)
end Rf
set_option maxHeartbeats 400000
namespace Rf
open PySem PySem.Spec L2
open PyProof.Rows hiding St
/-- a while-loop: what holds ahead of each turn, by what is left at most -/
theorem whl_wp {c : MT} {b : MS} {Q : Fl → Sto → Prop} (I : Nat → Ev → Sto → Prop)
    (hs : ∀ k env st, I k env st → (c env st).wp fun t s => if t then (b env s).wp (fun f s2 => match f with
      | .nx e => ∃ k', k' < k ∧ I k' e s2
      | .ct e => ∃ k', k' < k ∧ I k' e s2
      | .bk e => Q (.nx e) s2
      | .rt d => Q (.rt d) s2) else Q (.nx env) s) : ∀ (n k : Nat) (env : Ev) (st : Sto), k < n → I k env st → (whl c b n env st).wp Q
  | 0, _, _, _, h, _ => absurd h (Nat.not_lt_zero _)
  | n + 1, k, env, st, h, hI => by
    show ((c env st).bd fun k s => if k then (b env s).bd fun f s2 => match f with
      | .nx e => whl c b n e s2
      | .ct e => whl c b n e s2
      | .bk e => .ok (.nx e) s2
      | .rt d => .ok (.rt d) s2
    else .ok (.nx env) s).wp Q
    rw [wp_bd']
    refine R.wp_mono (hs k env st hI) fun t s h1 => ?_
    cases t with
    | false => exact h1
    | true =>
      rw [if_pos rfl] at h1 ⊢
      rw [wp_bd']
      refine R.wp_mono h1 fun f s2 h2 => ?_
      cases f with
      | nx e =>
        obtain ⟨k', hk, h3⟩ := h2
        exact whl_wp I hs n k' e s2 (by omega) h3
      | ct e =>
        obtain ⟨k', hk, h3⟩ := h2
        exact whl_wp I hs n k' e s2 (by omega) h3
      | bk e => exact h2
      | rt d => exact h2
@[simp] theorem ofStr_inj {a b : String} : PySem.Str.ofString a = PySem.Str.ofString b ↔ a = b := by
  constructor
  · intro h
    rw [PySem.Str.ofString_eq_toList, PySem.Str.ofString_eq_toList] at h
    have h1 : (a.toList.map Char.toNat).toArray = (b.toList.map Char.toNat).toArray := congrArg PySem.Str.cps h
    have h2 : a.toList.map Char.toNat = b.toList.map Char.toNat := by simpa using h1
    have h3 : a.toList = b.toList := List.map_inj_right (fun x y e => Char.ext (UInt32.toNat_inj.mp e)) |>.mp h2
    exact String.toList_inj.mp h3
  · intro h
    rw [h]
section
variable {s : Sto}
/-- a list of numbers of the store, read -/
theorem ix_ints {r : Nat} {cs : List Int} (h : s[r]? = some (.lst (cs.map .int))) {b : Nat} (hb : b < cs.length) : opIx (.ref r) (.int b) s = .ok (.int (cs.getD b 0)) s := by
  rw [o_ixS h (by omega) (by simpa using hb)]
  congr 1
  simp [List.getD_eq_getElem?_getD, List.getElem?_eq_getElem hb]
/-- the last of a tuple -/
theorem ix_last {ds : List D} {d : D} : opIx (.tup (ds ++ [d])) (.int (-1)) s = .ok d s := by
  have e : atI (ds ++ [d]) (-1) = some d := by
    unfold atI ixN
    simp
    rw [if_pos (by omega)]
    have : ((-1 : Int) + (↑ds.length + 1)).toNat = ds.length := by omega
    simp [this]
  show (match atI (ds ++ [d]) (-1) with | some d => R.ok d s | none => .bad) = _
  rw [e]
end
end Rf
set_option maxHeartbeats 0
namespace K36
open PySem PySem.Spec L2 Rf
open PyProof.Rows hiding St
def top (i : Nat) : Stmt := PySem.Challenge.pw_safehelms_k36_whole_runs_on_the_machine.main.body.getD i (.Pass ⟨0, 0, 0, 0⟩)
abbrev p0 : Pd := ⟨⟨("_law_top", none), "_law_top", "_law_top", defArgs (top 34), defBody (top 34), defScope (top 34), [], []⟩, ["_law_width", "_law_found", "_law_turn"], ["_law_width"]⟩
abbrev p1 : Pd := ⟨⟨("_law_pull", none), "_law_pull", "_law_pull", defArgs (top 31), defBody (top 31), defScope (top 31), [], []⟩, ["_law_urn_here", "_law_top_here", "_law_seed", "_law_digit"], ["_law_urn_here", "_law_top_here"]⟩
abbrev p2 : Pd := ⟨⟨("_law_one", none), "_law_one", "_law_one", defArgs (top 32), defBody (top 32), defScope (top 32), [], []⟩, ["_law_urn_here", "_law_some"], ["_law_urn_here", "_law_some"]⟩
abbrev p3 : Pd := ⟨⟨("_law_word", none), "_law_word", "_law_word", defArgs (top 35), defBody (top 35), defScope (top 35), [], []⟩, ["_law_urn_here", "_law_width", "_law_top_here", "_law_some"], ["_law_urn_here", "_law_width"]⟩
abbrev p4 : Pd := ⟨⟨("_law_code", none), "_law_code", "_law_code", defArgs (top 38), defBody (top 38), defScope (top 38), [], []⟩, ["_law_urn_here", "_law_width", "_law_cells", "_law_rows", "_law_found", "_law_at", "_law_word_here", "_law_some", "_law_way", "_law_one_here", "_law_two", "_law_three", "_law_on"], ["_law_urn_here", "_law_width", "_law_cells", "_law_rows"]⟩
abbrev p5 : Pd := ⟨⟨("_law_row_of_words", none), "_law_row_of_words", "_law_row_of_words", defArgs (top 39), defBody (top 39), defScope (top 39), [], []⟩, ["_law_urn_here", "_law_width", "_law_many", "_law_found", "_law_turn"], ["_law_urn_here", "_law_width", "_law_many"]⟩
abbrev p6 : Pd := ⟨⟨("_law_wrap", none), "_law_wrap", "_law_wrap", defArgs (top 36), defBody (top 36), defScope (top 36), [], []⟩, ["_law_width", "_law_number", "_law_top_here"], ["_law_width", "_law_number"]⟩
abbrev p7 : Pd := ⟨⟨("_law_machine", none), "_law_machine", "_law_machine", defArgs (top 37), defBody (top 37), defScope (top 37), [], []⟩, ["_law_width", "_law_code_here", "_law_cells", "_law_found", "_law_at", "_law_many", "_law_row", "_law_by"], ["_law_width", "_law_code_here", "_law_cells"]⟩
abbrev p8 : Pd := ⟨⟨("_law_is", none), "_law_is", "_law_is", defArgs (top 33), defBody (top 33), defScope (top 33), [], []⟩, ["_law_told", "_law_due"], ["_law_told", "_law_due"]⟩
abbrev p9 : Pd := ⟨⟨("is_whole", none), "is_whole", "is_whole", defArgs (top 6), defBody (top 6), defScope (top 6), [], []⟩, ["value"], ["value"]⟩
abbrev p10 : Pd := ⟨⟨("is_between", none), "is_between", "is_between", defArgs (top 7), defBody (top 7), defScope (top 7), [], []⟩, ["value", "low", "high"], ["value", "low", "high"]⟩
abbrev p11 : Pd := ⟨⟨("check_number", none), "check_number", "check_number", defArgs (top 9), defBody (top 9), defScope (top 9), [], []⟩, ["value", "low", "high"], ["value", "low", "high"]⟩
abbrev p12 : Pd := ⟨⟨("check_width", none), "check_width", "check_width", defArgs (top 27), defBody (top 27), defScope (top 27), [], []⟩, ["value"], ["value"]⟩
abbrev p13 : Pd := ⟨⟨("words_of", none), "words_of", "words_of", defArgs (top 11), defBody (top 11), defScope (top 11), [], []⟩, ["width", "half"], ["width"]⟩
abbrev p14 : Pd := ⟨⟨("is_operand", none), "is_operand", "is_operand", defArgs (top 18), defBody (top 18), defScope (top 18), [], []⟩, ["value", "letter", "words", "at", "many"], ["value", "letter", "words", "at", "many"]⟩
abbrev p15 : Pd := ⟨⟨("is_program_row", none), "is_program_row", "is_program_row", defArgs (top 19), defBody (top 19), defScope (top 19), [], []⟩, ["value", "words", "at", "many", "letters", "each", "letter"], ["value", "words", "at", "many"]⟩
abbrev p16 : Pd := ⟨⟨("wrong_in_program", none), "wrong_in_program", "wrong_in_program", defArgs (top 20), defBody (top 20), defScope (top 20), [], []⟩, ["width", "value", "wrong", "words", "many", "at", "row"], ["width", "value"]⟩
abbrev p17 : Pd := ⟨⟨("wrong_in_cells", none), "wrong_in_cells", "wrong_in_cells", defArgs (top 22), defBody (top 22), defScope (top 22), [], []⟩, ["width", "value", "low", "high", "index", "each"], ["width", "value"]⟩
abbrev p18 : Pd := ⟨⟨("wrapped_by", none), "wrapped_by", "wrapped_by", defArgs (top 23), defBody (top 23), defScope (top 23), [], []⟩, ["width", "number", "whole", "rest"], ["width", "number"]⟩
abbrev p19 : Pd := ⟨⟨("reckoned", none), "reckoned", "reckoned", defArgs (top 24), defBody (top 24), defScope (top 24), [], []⟩, ["width", "row", "cells", "first", "second"], ["width", "row", "cells"]⟩
abbrev p20 : Pd := ⟨⟨("run_program_by", none), "run_program_by", "run_program_by", defArgs (top 25), defBody (top 25), defScope (top 25), [], []⟩, ["width", "program", "cells", "found", "at", "row"], ["width", "program", "cells"]⟩
abbrev p21 : Pd := ⟨⟨("cells_of_row", none), "cells_of_row", "cells_of_row", defArgs (top 21), defBody (top 21), defScope (top 21), [], []⟩, ["row", "each", "letter"], ["row"]⟩
abbrev p22 : Pd := ⟨⟨("run_program", none), "run_program", "run_program", defArgs (top 28), defBody (top 28), defScope (top 28), [], []⟩, ["width", "program", "cells", "found", "wrong", "index", "row", "cell"], ["width", "program", "cells"]⟩
abbrev p23 : Pd := ⟨⟨("_law_right", none), "_law_right", "_law_right", defArgs (top 40), defBody (top 40), defScope (top 40), [], []⟩, ["_law_urn_here", "_law_turn", "_law_code_here", "_law_cells", "_law_width", "_law_many", "_law_due", "_law_rows"], ["_law_urn_here"]⟩
abbrev p24 : Pd := ⟨⟨("_law_urn", none), "_law_urn", "_law_urn", defArgs (top 30), defBody (top 30), defScope (top 30), [], []⟩, ["_law_script", "_law_turn", "_law_own", "_law_seed", "_law_cell"], ["_law_script", "_law_turn"]⟩
abbrev p25 : Pd := ⟨⟨("law", none), "law", "law", defArgs (top 41), defBody (top 41), defScope (top 41), [], []⟩, ["_law_script", "_law_turn"], ["_law_script"]⟩
def pds : List Pd := [p0, p1, p2, p3, p4, p5, p6, p7, p8, p9, p10, p11, p12, p13, p14, p15, p16, p17, p18, p19, p20, p21, p22, p23, p24, p25]
abbrev f0 : Fi := ⟨"_law_pull", 2, [], 1, [.at 0, .at 1]⟩
abbrev f1 : Fi := ⟨"_law_top", 1, [], 0, [.at 0]⟩
abbrev f2 : Fi := ⟨"_law_one", 2, [], 2, [.at 0, .at 1]⟩
abbrev f3 : Fi := ⟨"_law_word", 2, [], 3, [.at 0, .at 1]⟩
abbrev f4 : Fi := ⟨"_law_wrap", 2, [], 6, [.at 0, .at 1]⟩
abbrev f5 : Fi := ⟨"is_whole", 1, [], 9, [.at 0]⟩
abbrev f6 : Fi := ⟨"is_between", 3, [], 10, [.at 0, .at 1, .at 2]⟩
abbrev f7 : Fi := ⟨"check_number", 3, [], 11, [.at 0, .at 1, .at 2]⟩
abbrev f8 : Fi := ⟨"is_operand", 5, [], 14, [.at 0, .at 1, .at 2, .at 3, .at 4]⟩
abbrev f9 : Fi := ⟨"words_of", 1, [], 13, [.at 0]⟩
abbrev f10 : Fi := ⟨"is_program_row", 4, [], 15, [.at 0, .at 1, .at 2, .at 3]⟩
abbrev f11 : Fi := ⟨"wrapped_by", 2, [], 18, [.at 0, .at 1]⟩
abbrev f12 : Fi := ⟨"reckoned", 3, [], 19, [.at 0, .at 1, .at 2]⟩
abbrev f13 : Fi := ⟨"check_width", 1, [], 12, [.at 0]⟩
abbrev f14 : Fi := ⟨"wrong_in_program", 2, [], 16, [.at 0, .at 1]⟩
abbrev f15 : Fi := ⟨"wrong_in_cells", 2, [], 17, [.at 0, .at 1]⟩
abbrev f16 : Fi := ⟨"cells_of_row", 1, [], 21, [.at 0]⟩
abbrev f17 : Fi := ⟨"run_program_by", 3, [], 20, [.at 0, .at 1, .at 2]⟩
abbrev f18 : Fi := ⟨"_law_code", 4, [], 4, [.at 0, .at 1, .at 2, .at 3]⟩
abbrev f19 : Fi := ⟨"_law_row_of_words", 3, [], 5, [.at 0, .at 1, .at 2]⟩
abbrev f20 : Fi := ⟨"_law_machine", 3, [], 7, [.at 0, .at 1, .at 2]⟩
abbrev f21 : Fi := ⟨"_law_is", 2, [], 8, [.at 0, .at 1]⟩
abbrev f22 : Fi := ⟨"run_program", 3, [], 22, [.at 0, .at 1, .at 2]⟩
abbrev f23 : Fi := ⟨"run_program", 0, ["cells", "program", "width"], 22, [.at 2, .at 1, .at 0]⟩
abbrev f24 : Fi := ⟨"_law_right", 1, [], 23, [.at 0]⟩
abbrev f25 : Fi := ⟨"_law_urn", 2, [], 24, [.at 0, .at 1]⟩
abbrev t_SHAPES : List (Str × D) := [("put", (.str "cw")), ("copy", (.str "cc")), ("add", (.str "ccc")), ("less", (.str "ccc")), ("times", (.str "ccw")), ("jump", (.str "r")), ("below", (.str "ccr")), ("stop", (.str ""))]
def G : Gi := ⟨[f0, f1, f2, f3, f4, f5, f6, f7, f8, f9, f10, f11, f12, f13, f14, f15, f16, f17, f18, f19, f20, f21, f22, f23, f24, f25], [("LEAST_WIDTH", (.int (4))), ("MOST_CELLS", (.int (128))), ("MOST_ROWS", (.int (2000))), ("MOST_WIDTH", (.int (32)))], false, [("SHAPES", t_SHAPES)]⟩
def C : Cfg := ⟨G, [(79, 17), (112, 11), (138, 38), (155, 17), (164, 17)]⟩
def B : Bds := bdsOf pds C 1000000 200
/-- the defs to a depth, kept shut -/
@[irreducible] def Fx (n : Nat) : Fn := callN B n
theorem fx (n : Nat) : Fx n = callN B n := by unfold Fx; rfl
/-- slots: 0 _law_width 1 _law_found 2 _law_turn -/
def m_law_top (F : Fn) : MS := (mSeq (mAsg (gNm 1) (mCst (.int 1)))
    (mSeq (mFor (gNm 2) (mRg (mCons (mOp2 opSub (mVar 0) (mCst (.int 1))) mNil))
    (mAsg (gNm 1) (mOp2 (opMul false) (mVar 1) (mCst (.int 2)))))
    (mRet (mVar 1))))
theorem b0 (F : Fn) : B 0 F = (1, 3, m_law_top F) := by kernel_rfl
theorem c0 (n : Nat) (ds : List D) (st : Sto) : Fx (n + 1) 0 ds st = runB 1 3 (m_law_top (Fx n)) ds st := by rw [fx, fx]; show runB (B 0 _).1 (B 0 _).2.1 (B 0 _).2.2 ds st = _; rw [b0]
/-- slots: 0 _law_urn_here 1 _law_top_here 2 _law_seed 3 _law_digit -/
def m_law_pull (F : Fn) : MS := (mSeq (mIfS (mTest (mOp2 (opCmp fun i j => decide (j < i)) (mOp2 opIx (mVar 0) (mCst (.int 0))) (mCst (.int 0))))
    (mSeq (mAsg (gTp 2 (gCons (gSub (mVar 0) (mCst (.int 0))) (gCons (gNm 3) gNil))) (mOpN opDm (mCons (mOp2 opIx (mVar 0) (mCst (.int 0))) (mCons (mVar 1) mNil))))
    (mRet (mVar 3)))
    mPass)
    (mSeq (mAsg (gSub (mVar 0) (mCst (.int 2))) (mOp2 (opAdd false) (mOp2 opIx (mVar 0) (mCst (.int 2))) (mCst (.int 1))))
    (mSeq (mAsg (gNm 2) (mOp2 opMod (mOpN opInt (mCons (mOp2 (opAdd false) (mOp2 (opAdd false) (mOp2 (opMul false) (mOp2 opIx (mVar 0) (mCst (.int 1))) (mCst (.int 39373))) (mOp2 (opMul false) (mOp2 opIx (mVar 0) (mCst (.int 2))) (mCst (.int 50021)))) (mCst (.int 11))) mNil)) (mCst (.int 2147483563))))
    (mSeq (mAsg (gSub (mVar 0) (mCst (.int 1))) (mVar 2))
    (mRet (mOp2 opMod (mOpN opInt (mCons (mOp2 opDiv (mOp2 opMod (mOpN opInt (mCons (mOp2 (opMul false) (mVar 2) (mOp2 (opAdd false) (mOp2 opMod (mOpN opInt (mCons (mVar 2) mNil)) (mCst (.int 6007))) (mCst (.int 30011)))) mNil)) (mCst (.int 21474835870))) (mCst (.int 127))) mNil)) (mVar 1)))))))
theorem b1 (F : Fn) : B 1 F = (2, 4, m_law_pull F) := by kernel_rfl
theorem c1 (n : Nat) (ds : List D) (st : Sto) : Fx (n + 1) 1 ds st = runB 2 4 (m_law_pull (Fx n)) ds st := by rw [fx, fx]; show runB (B 1 _).1 (B 1 _).2.1 (B 1 _).2.2 ds st = _; rw [b1]
/-- slots: 0 _law_urn_here 1 _law_some -/
def m_law_one (F : Fn) : MS := (mRet (mOp2 opIx (mVar 1) (mCall F 1 [.at 0, .at 1] (mCons (mVar 0) (mCons (mOpN (un1 opLen) (mCons (mVar 1) mNil)) mNil)))))
theorem b2 (F : Fn) : B 2 F = (2, 2, m_law_one F) := by kernel_rfl
theorem c2 (n : Nat) (ds : List D) (st : Sto) : Fx (n + 1) 2 ds st = runB 2 2 (m_law_one (Fx n)) ds st := by rw [fx, fx]; show runB (B 2 _).1 (B 2 _).2.1 (B 2 _).2.2 ds st = _; rw [b2]
/-- slots: 0 _law_urn_here 1 _law_width 2 _law_top_here 3 _law_some -/
def m_law_word (F : Fn) : MS := (mSeq (mAsg (gNm 2) (mCall F 0 [.at 0] (mCons (mVar 1) mNil)))
    (mSeq (mAsg (gNm 3) (mOpN opTup (mCons (mCst (.int 0)) (mCons (mCst (.int 1)) (mCons (mCst (.int 2)) (mCons (mCst (.int 3)) (mCons (mOp1 opNeg (mCst (.int 1))) (mCons (mOp1 opNeg (mCst (.int 2))) (mCons (mCst (.int 5)) (mCons (mCst (.int 7)) (mCons (mOp2 opSub (mVar 2) (mCst (.int 1))) (mCons (mOp1 opNeg (mVar 2)) (mCons (mOp2 opSub (mCall F 1 [.at 0, .at 1] (mCons (mVar 0) (mCons (mOp2 (opMul false) (mCst (.int 2)) (mVar 2)) mNil))) (mVar 2)) (mCons (mOp2 opSub (mCall F 1 [.at 0, .at 1] (mCons (mVar 0) (mCons (mCst (.int 12)) mNil))) (mCst (.int 4))) mNil))))))))))))))
    (mRet (mOpN opMax (mCons (mOp1 opNeg (mVar 2)) (mCons (mOpN opMin (mCons (mOp2 opSub (mVar 2) (mCst (.int 1))) (mCons (mCall F 2 [.at 0, .at 1] (mCons (mVar 0) (mCons (mVar 3) mNil))) mNil))) mNil))))))
theorem b3 (F : Fn) : B 3 F = (2, 4, m_law_word F) := by kernel_rfl
theorem c3 (n : Nat) (ds : List D) (st : Sto) : Fx (n + 1) 3 ds st = runB 2 4 (m_law_word (Fx n)) ds st := by rw [fx, fx]; show runB (B 3 _).1 (B 3 _).2.1 (B 3 _).2.2 ds st = _; rw [b3]
/-- slots: 0 _law_urn_here 1 _law_width 2 _law_cells 3 _law_rows 4 _law_found 5 _law_at 6 _law_word_here 7 _law_some 8 _law_way 9 _law_one_here 10 _law_two 11 _law_three 12 _law_on -/
def m_law_code (F : Fn) : MS := (mSeq (mAsg (gNm 4) (mOpN (opLst true) mNil))
    (mSeq (mFor (gNm 5) (mRg (mCons (mOp2 opSub (mVar 3) (mCst (.int 1))) mNil))
    (mSeq (mPar3 8 9 10 (mCons (mCall F 1 [.at 0, .at 1] (mCons (mVar 0) (mCons (mCst (.int 9)) mNil))) (mCons (mCall F 1 [.at 0, .at 1] (mCons (mVar 0) (mCons (mVar 2) mNil))) (mCons (mCall F 1 [.at 0, .at 1] (mCons (mVar 0) (mCons (mVar 2) mNil))) mNil))))
    (mSeq (mPar 11 12 (mCons (mCall F 1 [.at 0, .at 1] (mCons (mVar 0) (mCons (mVar 2) mNil))) (mCons (mOp2 (opAdd false) (mOp2 (opAdd false) (mVar 5) (mCst (.int 1))) (mCall F 1 [.at 0, .at 1] (mCons (mVar 0) (mCons (mOpN opMin (mCons (mOp2 opSub (mOp2 opSub (mVar 3) (mCst (.int 1))) (mVar 5)) (mCons (mCst (.int 6)) mNil))) mNil)))) mNil)))
    (mSeq (mAsg (gNm 6) (mCall F 3 [.at 0, .at 1] (mCons (mVar 0) (mCons (mVar 1) mNil))))
    (mSeq (mAsg (gNm 7) (mOpN opTup (mCons (mOpN opTup (mCons (mCst (.str "put")) (mCons (mVar 9) (mCons (mVar 6) mNil)))) (mCons (mOpN opTup (mCons (mCst (.str "copy")) (mCons (mVar 9) (mCons (mVar 10) mNil)))) (mCons (mOpN opTup (mCons (mCst (.str "add")) (mCons (mVar 9) (mCons (mVar 10) (mCons (mVar 11) mNil))))) (mCons (mOpN opTup (mCons (mCst (.str "less")) (mCons (mVar 9) (mCons (mVar 10) (mCons (mVar 11) mNil))))) (mCons (mOpN opTup (mCons (mCst (.str "times")) (mCons (mVar 9) (mCons (mVar 10) (mCons (mVar 6) mNil))))) (mCons (mOpN opTup (mCons (mCst (.str "below")) (mCons (mVar 9) (mCons (mVar 10) (mCons (mVar 12) mNil))))) (mCons (mOpN opTup (mCons (mCst (.str "below")) (mCons (mVar 10) (mCons (mVar 11) (mCons (mVar 12) mNil))))) (mCons (mOpN opTup (mCons (mCst (.str "jump")) (mCons (mVar 12) mNil))) (mCons (mOpN opTup (mCons (mCst (.str "add")) (mCons (mVar 9) (mCons (mVar 9) (mCons (mVar 10) mNil))))) mNil)))))))))))
    (mExp (mMt opApp (mVar 4) (mOp2 opIx (mVar 7) (mVar 8)))))))))
    (mRet (mOp2 (opAdd false) (mOpN (un1 opTupOf) (mCons (mVar 4) mNil)) (mOpN opTup (mCons (mOpN opTup (mCons (mCst (.str "stop")) mNil)) mNil))))))
theorem b4 (F : Fn) : B 4 F = (4, 13, m_law_code F) := by kernel_rfl
theorem c4 (n : Nat) (ds : List D) (st : Sto) : Fx (n + 1) 4 ds st = runB 4 13 (m_law_code (Fx n)) ds st := by rw [fx, fx]; show runB (B 4 _).1 (B 4 _).2.1 (B 4 _).2.2 ds st = _; rw [b4]
/-- slots: 0 _law_urn_here 1 _law_width 2 _law_many 3 _law_found 4 _law_turn -/
def m_law_row_of_words (F : Fn) : MS := (mSeq (mAsg (gNm 3) (mOpN (opLst true) mNil))
    (mSeq (mFor (gNm 4) (mRg (mCons (mVar 2) mNil))
    (mExp (mMt opApp (mVar 3) (mCall F 3 [.at 0, .at 1] (mCons (mVar 0) (mCons (mVar 1) mNil))))))
    (mRet (mOpN (un1 opTupOf) (mCons (mVar 3) mNil)))))
theorem b5 (F : Fn) : B 5 F = (3, 5, m_law_row_of_words F) := by kernel_rfl
theorem c5 (n : Nat) (ds : List D) (st : Sto) : Fx (n + 1) 5 ds st = runB 3 5 (m_law_row_of_words (Fx n)) ds st := by rw [fx, fx]; show runB (B 5 _).1 (B 5 _).2.1 (B 5 _).2.2 ds st = _; rw [b5]
/-- slots: 0 _law_width 1 _law_number 2 _law_top_here -/
def m_law_wrap (F : Fn) : MS := (mSeq (mAsg (gNm 2) (mCall F 0 [.at 0] (mCons (mVar 0) mNil)))
    (mRet (mOp2 opSub (mOp2 opMod (mOpN opInt (mCons (mOp2 (opAdd false) (mVar 1) (mVar 2)) mNil)) (mOp2 (opMul false) (mCst (.int 2)) (mVar 2))) (mVar 2))))
theorem b6 (F : Fn) : B 6 F = (2, 3, m_law_wrap F) := by kernel_rfl
theorem c6 (n : Nat) (ds : List D) (st : Sto) : Fx (n + 1) 6 ds st = runB 2 3 (m_law_wrap (Fx n)) ds st := by rw [fx, fx]; show runB (B 6 _).1 (B 6 _).2.1 (B 6 _).2.2 ds st = _; rw [b6]
/-- slots: 0 _law_width 1 _law_code_here 2 _law_cells 3 _law_found 4 _law_at 5 _law_many 6 _law_row 7 _law_by -/
def m_law_machine (F : Fn) : MS := (mSeq (mPar3 3 4 5 (mCons (mOpN (un1 (opLstOf true)) (mCons (mVar 2) mNil)) (mCons (mCst (.int 0)) (mCons (mCst (.int 0)) mNil))))
    (mSeq (mWhl 1000000 (mTest (mOp2 (opEq true) (mOp2 opIx (mOp2 opIx (mVar 1) (mVar 4)) (mCst (.int 0))) (mCst (.str "stop"))))
    (mSeq (mPar 6 5 (mCons (mOp2 opIx (mVar 1) (mVar 4)) (mCons (mOp2 (opAdd false) (mVar 5) (mCst (.int 1))) mNil)))
    (mSeq (mAsg (gNm 4) (mOp2 (opAdd false) (mVar 4) (mCst (.int 1))))
    (mIfS (mTest (mOp2 (opEq false) (mOp2 opIx (mVar 6) (mCst (.int 0))) (mCst (.str "put"))))
    (mAsg (gSub (mVar 3) (mOp2 opIx (mVar 6) (mCst (.int 1)))) (mOp2 opIx (mVar 6) (mCst (.int 2))))
    (mIfS (mTest (mOp2 (opEq false) (mOp2 opIx (mVar 6) (mCst (.int 0))) (mCst (.str "copy"))))
    (mAsg (gSub (mVar 3) (mOp2 opIx (mVar 6) (mCst (.int 1)))) (mOp2 opIx (mVar 3) (mOp2 opIx (mVar 6) (mCst (.int 2)))))
    (mIfS (mTest (mOp2 (opEq false) (mOp2 opIx (mVar 6) (mCst (.int 0))) (mCst (.str "times"))))
    (mAsg (gSub (mVar 3) (mOp2 opIx (mVar 6) (mCst (.int 1)))) (mCall F 6 [.at 0, .at 1] (mCons (mVar 0) (mCons (mOp2 (opMul false) (mOp2 opIx (mVar 3) (mOp2 opIx (mVar 6) (mCst (.int 2)))) (mOp2 opIx (mVar 6) (mCst (.int 3)))) mNil))))
    (mIfS (mTest (mOp2 (opIn false) (mOp2 opIx (mVar 6) (mCst (.int 0))) (mOpN opTup (mCons (mCst (.str "add")) (mCons (mCst (.str "less")) mNil)))))
    (mSeq (mAsg (gNm 7) (mIf (mTest (mOp2 (opEq false) (mOp2 opIx (mVar 6) (mCst (.int 0))) (mCst (.str "add")))) (mCst (.int 1)) (mOp1 opNeg (mCst (.int 1)))))
    (mAsg (gSub (mVar 3) (mOp2 opIx (mVar 6) (mCst (.int 1)))) (mCall F 6 [.at 0, .at 1] (mCons (mVar 0) (mCons (mOp2 (opAdd false) (mOp2 opIx (mVar 3) (mOp2 opIx (mVar 6) (mCst (.int 2)))) (mOp2 (opMul false) (mVar 7) (mOp2 opIx (mVar 3) (mOp2 opIx (mVar 6) (mCst (.int 3)))))) mNil)))))
    (mIfS (mOrT (mTest (mOp2 (opEq false) (mOp2 opIx (mVar 6) (mCst (.int 0))) (mCst (.str "jump")))) (mTest (mOp2 (opCmp fun i j => decide (i < j)) (mOp2 opIx (mVar 3) (mOp2 opIx (mVar 6) (mCst (.int 1)))) (mOp2 opIx (mVar 3) (mOp2 opIx (mVar 6) (mCst (.int 2)))))))
    (mAsg (gNm 4) (mOp2 opIx (mVar 6) (mOp1 opNeg (mCst (.int 1)))))
    mPass))))))))
    (mRet (mOpN opTup (mCons (mOpN (un1 opTupOf) (mCons (mVar 3) mNil)) (mCons (mOp2 (opAdd false) (mVar 5) (mCst (.int 1))) mNil))))))
theorem b7 (F : Fn) : B 7 F = (3, 8, m_law_machine F) := by kernel_rfl
theorem c7 (n : Nat) (ds : List D) (st : Sto) : Fx (n + 1) 7 ds st = runB 3 8 (m_law_machine (Fx n)) ds st := by rw [fx, fx]; show runB (B 7 _).1 (B 7 _).2.1 (B 7 _).2.2 ds st = _; rw [b7]
/-- slots: 0 _law_told 1 _law_due -/
def m_law_is (F : Fn) : MS := (mRet (mOp2 (opEq false) (mOpN opRepr (mCons (mVar 0) mNil)) (mOpN opRepr (mCons (mVar 1) mNil))))
theorem b8 (F : Fn) : B 8 F = (2, 2, m_law_is F) := by kernel_rfl
theorem c8 (n : Nat) (ds : List D) (st : Sto) : Fx (n + 1) 8 ds st = runB 2 2 (m_law_is (Fx n)) ds st := by rw [fx, fx]; show runB (B 8 _).1 (B 8 _).2.1 (B 8 _).2.2 ds st = _; rw [b8]
/-- slots: 0 value -/
def m_is_whole (F : Fn) : MS := (mRet (mAndV (mOp1 (opIsi .int) (mVar 0)) (mNotV (mOp1 (opIsi .bool) (mVar 0)))))
theorem b9 (F : Fn) : B 9 F = (1, 1, m_is_whole F) := by kernel_rfl
theorem c9 (n : Nat) (ds : List D) (st : Sto) : Fx (n + 1) 9 ds st = runB 1 1 (m_is_whole (Fx n)) ds st := by rw [fx, fx]; show runB (B 9 _).1 (B 9 _).2.1 (B 9 _).2.2 ds st = _; rw [b9]
/-- slots: 0 value 1 low 2 high -/
def m_is_between (F : Fn) : MS := (mRet (mAndV (mCall F 9 [.at 0] (mCons (mVar 0) mNil)) (mChn (fun i j => decide (i ≤ j)) (fun i j => decide (i ≤ j)) (mVar 1) (mVar 0) (mVar 2))))
theorem b10 (F : Fn) : B 10 F = (3, 3, m_is_between F) := by kernel_rfl
theorem c10 (n : Nat) (ds : List D) (st : Sto) : Fx (n + 1) 10 ds st = runB 3 3 (m_is_between (Fx n)) ds st := by rw [fx, fx]; show runB (B 10 _).1 (B 10 _).2.1 (B 10 _).2.2 ds st = _; rw [b10]
/-- slots: 0 value 1 low 2 high -/
def m_check_number (F : Fn) : MS := (mIfS (mNotT (mTest (mCall F 10 [.at 0, .at 1, .at 2] (mCons (mVar 0) (mCons (mVar 1) (mCons (mVar 2) mNil))))))
    mBad
    mPass)
theorem b11 (F : Fn) : B 11 F = (3, 3, m_check_number F) := by kernel_rfl
theorem c11 (n : Nat) (ds : List D) (st : Sto) : Fx (n + 1) 11 ds st = runB 3 3 (m_check_number (Fx n)) ds st := by rw [fx, fx]; show runB (B 11 _).1 (B 11 _).2.1 (B 11 _).2.2 ds st = _; rw [b11]
/-- slots: 0 value -/
def m_check_width (F : Fn) : MS := (mExp (mCall F 11 [.at 0, .at 1, .at 2] (mCons (mVar 0) (mCons (mCst (.int (4))) (mCons (mCst (.int (32))) mNil)))))
theorem b12 (F : Fn) : B 12 F = (1, 1, m_check_width F) := by kernel_rfl
theorem c12 (n : Nat) (ds : List D) (st : Sto) : Fx (n + 1) 12 ds st = runB 1 1 (m_check_width (Fx n)) ds st := by rw [fx, fx]; show runB (B 12 _).1 (B 12 _).2.1 (B 12 _).2.2 ds st = _; rw [b12]
/-- slots: 0 width 1 half -/
def m_words_of (F : Fn) : MS := (mSeq (mAsg (gNm 1) (mOp2 opShl (mCst (.int 1)) (mOp2 opSub (mVar 0) (mCst (.int 1)))))
    (mRet (mOpN opTup (mCons (mOp1 opNeg (mVar 1)) (mCons (mOp2 opSub (mVar 1) (mCst (.int 1))) mNil)))))
theorem b13 (F : Fn) : B 13 F = (1, 2, m_words_of F) := by kernel_rfl
theorem c13 (n : Nat) (ds : List D) (st : Sto) : Fx (n + 1) 13 ds st = runB 1 2 (m_words_of (Fx n)) ds st := by rw [fx, fx]; show runB (B 13 _).1 (B 13 _).2.1 (B 13 _).2.2 ds st = _; rw [b13]
/-- slots: 0 value 1 letter 2 words 3 at 4 many -/
def m_is_operand (F : Fn) : MS := (mSeq (mIfS (mTest (mOp2 (opEq false) (mVar 1) (mCst (.str "c"))))
    (mRet (mCall F 10 [.at 0, .at 1, .at 2] (mCons (mVar 0) (mCons (mCst (.int 0)) (mCons (mOp2 opSub (mCst (.int (128))) (mCst (.int 1))) mNil)))))
    mPass)
    (mSeq (mIfS (mTest (mOp2 (opEq false) (mVar 1) (mCst (.str "w"))))
    (mRet (mCall F 10 [.at 0, .at 1, .at 2] (mCons (mVar 0) (mCons (mOp2 opIx (mVar 2) (mCst (.int 0))) (mCons (mOp2 opIx (mVar 2) (mCst (.int 1))) mNil)))))
    mPass)
    (mRet (mCall F 10 [.at 0, .at 1, .at 2] (mCons (mVar 0) (mCons (mOp2 (opAdd false) (mVar 3) (mCst (.int 1))) (mCons (mOp2 opSub (mVar 4) (mCst (.int 1))) mNil)))))))
theorem b14 (F : Fn) : B 14 F = (5, 5, m_is_operand F) := by kernel_rfl
theorem c14 (n : Nat) (ds : List D) (st : Sto) : Fx (n + 1) 14 ds st = runB 5 5 (m_is_operand (Fx n)) ds st := by rw [fx, fx]; show runB (B 14 _).1 (B 14 _).2.1 (B 14 _).2.2 ds st = _; rw [b14]
/-- slots: 0 value 1 words 2 at 3 many 4 letters 5 each 6 letter -/
def m_is_program_row (F : Fn) : MS := (mSeq (mIfS (mOrT (mNotT (mTest (mOp1 (opIsi .tuple) (mVar 0)))) (mOrT (mTest (mOp2 (opEq false) (mVar 0) (mOpN opTup mNil))) (mOrT (mNotT (mTest (mOp1 (opIsi .str) (mOp2 opIx (mVar 0) (mCst (.int 0)))))) (mTest (mOp1 (opTin true t_SHAPES) (mOp2 opIx (mVar 0) (mCst (.int 0))))))))
    (mRet (mCst (.bl false)))
    mPass)
    (mSeq (mAsg (gNm 4) (mOp1 (opTget t_SHAPES) (mOp2 opIx (mVar 0) (mCst (.int 0)))))
    (mSeq (mIfS (mTest (mOp2 (opEq true) (mOpN (un1 opLen) (mCons (mVar 0) mNil)) (mOp2 (opAdd false) (mOpN (un1 opLen) (mCons (mVar 4) mNil)) (mCst (.int 1)))))
    (mRet (mCst (.bl false)))
    mPass)
    (mRet (mOpN (opBls fun bs => .bl (bs.all id)) (mCons (mLc false [5, 6] (gTp 2 (gCons (gNm 5) (gCons (gNm 6) gNil))) mYes (mCall F 14 [.at 0, .at 1, .at 2, .at 3, .at 4] (mCons (mVar 5) (mCons (mVar 6) (mCons (mVar 1) (mCons (mVar 2) (mCons (mVar 3) mNil)))))) (mZp (mCons (mSl false (mVar 0) (some (mCst (.int 1))) none) (mCons (mVar 4) mNil)))) mNil))))))
theorem b15 (F : Fn) : B 15 F = (4, 7, m_is_program_row F) := by kernel_rfl
theorem c15 (n : Nat) (ds : List D) (st : Sto) : Fx (n + 1) 15 ds st = runB 4 7 (m_is_program_row (Fx n)) ds st := by rw [fx, fx]; show runB (B 15 _).1 (B 15 _).2.1 (B 15 _).2.2 ds st = _; rw [b15]
/-- slots: 0 width 1 value 2 wrong 3 words 4 many 5 at 6 row -/
def m_wrong_in_program (F : Fn) : MS := (mSeq (mIfS (mOrT (mNotT (mTest (mOp1 (opIsi .tuple) (mVar 1)))) (mNotT (mTest (mChn (fun i j => decide (i ≤ j)) (fun i j => decide (i ≤ j)) (mCst (.int 1)) (mOpN (un1 opLen) (mCons (mVar 1) mNil)) (mCst (.int (2000)))))))
    (mRet (mOpN (opLst false) (mCons (mCst .non) mNil)))
    mPass)
    (mSeq (mAsg (gTp 2 (gCons (gNm 3) (gCons (gNm 4) gNil))) (mOpN opTup (mCons (mCall F 13 [.at 0] (mCons (mVar 0) mNil)) (mCons (mOpN (un1 opLen) (mCons (mVar 1) mNil)) mNil))))
    (mSeq (mAsg (gNm 2) (mSl false (mLc false [5, 6] (gTp 2 (gCons (gNm 5) (gCons (gNm 6) gNil))) (mNotT (mTest (mCall F 15 [.at 0, .at 1, .at 2, .at 3] (mCons (mVar 6) (mCons (mVar 3) (mCons (mVar 5) (mCons (mVar 4) mNil))))))) (mVar 5) (mEn (mCons (mVar 1) mNil))) none (some (mCst (.int 1)))))
    (mRet (mIf (mOrT (mTest (mOp2 (opEq true) (mVar 2) (mOpN (opLst false) mNil))) (mTest (mOp2 (opEq false) (mOp2 opIx (mVar 1) (mOp1 opNeg (mCst (.int 1)))) (mOpN opTup (mCons (mCst (.str "stop")) mNil))))) (mVar 2) (mOpN (opLst false) (mCons (mOp2 opSub (mVar 4) (mCst (.int 1))) mNil)))))))
theorem b16 (F : Fn) : B 16 F = (2, 7, m_wrong_in_program F) := by kernel_rfl
theorem c16 (n : Nat) (ds : List D) (st : Sto) : Fx (n + 1) 16 ds st = runB 2 7 (m_wrong_in_program (Fx n)) ds st := by rw [fx, fx]; show runB (B 16 _).1 (B 16 _).2.1 (B 16 _).2.2 ds st = _; rw [b16]
/-- slots: 0 width 1 value 2 low 3 high 4 index 5 each -/
def m_wrong_in_cells (F : Fn) : MS := (mSeq (mIfS (mOrT (mNotT (mTest (mOp1 (opIsi .tuple) (mVar 1)))) (mNotT (mTest (mChn (fun i j => decide (i ≤ j)) (fun i j => decide (i ≤ j)) (mCst (.int 1)) (mOpN (un1 opLen) (mCons (mVar 1) mNil)) (mCst (.int (128)))))))
    (mRet (mOpN (opLst false) (mCons (mCst .non) mNil)))
    mPass)
    (mSeq (mAsg (gTp 2 (gCons (gNm 2) (gCons (gNm 3) gNil))) (mCall F 13 [.at 0] (mCons (mVar 0) mNil)))
    (mRet (mSl false (mLc false [4, 5] (gTp 2 (gCons (gNm 4) (gCons (gNm 5) gNil))) (mNotT (mTest (mCall F 10 [.at 0, .at 1, .at 2] (mCons (mVar 5) (mCons (mVar 2) (mCons (mVar 3) mNil)))))) (mVar 4) (mEn (mCons (mVar 1) mNil))) none (some (mCst (.int 1)))))))
theorem b17 (F : Fn) : B 17 F = (2, 6, m_wrong_in_cells F) := by kernel_rfl
theorem c17 (n : Nat) (ds : List D) (st : Sto) : Fx (n + 1) 17 ds st = runB 2 6 (m_wrong_in_cells (Fx n)) ds st := by rw [fx, fx]; show runB (B 17 _).1 (B 17 _).2.1 (B 17 _).2.2 ds st = _; rw [b17]
/-- slots: 0 width 1 number 2 whole 3 rest -/
def m_wrapped_by (F : Fn) : MS := (mSeq (mAsg (gNm 2) (mOp2 opShl (mCst (.int 1)) (mVar 0)))
    (mSeq (mAsg (gNm 3) (mOp2 opMod (mVar 1) (mVar 2)))
    (mRet (mIf (mTest (mOp2 (opCmp fun i j => decide (j ≤ i)) (mVar 3) (mOp2 opDiv (mVar 2) (mCst (.int 2))))) (mOp2 opSub (mVar 3) (mVar 2)) (mVar 3)))))
theorem b18 (F : Fn) : B 18 F = (2, 4, m_wrapped_by F) := by kernel_rfl
theorem c18 (n : Nat) (ds : List D) (st : Sto) : Fx (n + 1) 18 ds st = runB 2 4 (m_wrapped_by (Fx n)) ds st := by rw [fx, fx]; show runB (B 18 _).1 (B 18 _).2.1 (B 18 _).2.2 ds st = _; rw [b18]
/-- slots: 0 width 1 row 2 cells 3 first 4 second -/
def m_reckoned (F : Fn) : MS := (mSeq (mIfS (mTest (mOp2 (opEq false) (mOp2 opIx (mVar 1) (mCst (.int 0))) (mCst (.str "put"))))
    (mRet (mOp2 opIx (mVar 1) (mCst (.int 2))))
    mPass)
    (mSeq (mAsg (gNm 3) (mOp2 opIx (mVar 2) (mOp2 opIx (mVar 1) (mCst (.int 2)))))
    (mSeq (mIfS (mTest (mOp2 (opEq false) (mOp2 opIx (mVar 1) (mCst (.int 0))) (mCst (.str "copy"))))
    (mRet (mVar 3))
    mPass)
    (mSeq (mIfS (mTest (mOp2 (opEq false) (mOp2 opIx (mVar 1) (mCst (.int 0))) (mCst (.str "times"))))
    (mRet (mCall F 18 [.at 0, .at 1] (mCons (mVar 0) (mCons (mOp2 (opMul false) (mVar 3) (mOp2 opIx (mVar 1) (mCst (.int 3)))) mNil))))
    mPass)
    (mSeq (mAsg (gNm 4) (mOp2 opIx (mVar 2) (mOp2 opIx (mVar 1) (mCst (.int 3)))))
    (mRet (mCall F 18 [.at 0, .at 1] (mCons (mVar 0) (mCons (mIf (mTest (mOp2 (opEq false) (mOp2 opIx (mVar 1) (mCst (.int 0))) (mCst (.str "add")))) (mOp2 (opAdd false) (mVar 3) (mVar 4)) (mOp2 opSub (mVar 3) (mVar 4))) mNil)))))))))
theorem b19 (F : Fn) : B 19 F = (3, 5, m_reckoned F) := by kernel_rfl
theorem c19 (n : Nat) (ds : List D) (st : Sto) : Fx (n + 1) 19 ds st = runB 3 5 (m_reckoned (Fx n)) ds st := by rw [fx, fx]; show runB (B 19 _).1 (B 19 _).2.1 (B 19 _).2.2 ds st = _; rw [b19]
/-- slots: 0 width 1 program 2 cells 3 found 4 at 5 row -/
def m_run_program_by (F : Fn) : MS := (mSeq (mPar 3 4 (mCons (mOpN (un1 (opLstOf true)) (mCons (mVar 2) mNil)) (mCons (mCst (.int 0)) mNil)))
    (mSeq (mWhl 1000000 (mTest (mOp2 (opEq true) (mOp2 opIx (mOp2 opIx (mVar 1) (mVar 4)) (mCst (.int 0))) (mCst (.str "stop"))))
    (mSeq (mAsg (gNm 5) (mOp2 opIx (mVar 1) (mVar 4)))
    (mSeq (mAsg (gNm 4) (mOp2 (opAdd false) (mVar 4) (mCst (.int 1))))
    (mIfS (mTest (mOp2 (opEq false) (mOp2 opIx (mVar 5) (mCst (.int 0))) (mCst (.str "jump"))))
    (mAsg (gNm 4) (mOp2 opIx (mVar 5) (mCst (.int 1))))
    (mIfS (mTest (mOp2 (opEq false) (mOp2 opIx (mVar 5) (mCst (.int 0))) (mCst (.str "below"))))
    (mAsg (gNm 4) (mIf (mTest (mOp2 (opCmp fun i j => decide (i < j)) (mOp2 opIx (mVar 3) (mOp2 opIx (mVar 5) (mCst (.int 1)))) (mOp2 opIx (mVar 3) (mOp2 opIx (mVar 5) (mCst (.int 2)))))) (mOp2 opIx (mVar 5) (mCst (.int 3))) (mVar 4)))
    (mAsg (gSub (mVar 3) (mOp2 opIx (mVar 5) (mCst (.int 1)))) (mCall F 19 [.at 0, .at 1, .at 2] (mCons (mVar 0) (mCons (mVar 5) (mCons (mVar 3) mNil))))))))))
    (mRet (mOpN (un1 opTupOf) (mCons (mVar 3) mNil)))))
theorem b20 (F : Fn) : B 20 F = (3, 6, m_run_program_by F) := by kernel_rfl
theorem c20 (n : Nat) (ds : List D) (st : Sto) : Fx (n + 1) 20 ds st = runB 3 6 (m_run_program_by (Fx n)) ds st := by rw [fx, fx]; show runB (B 20 _).1 (B 20 _).2.1 (B 20 _).2.2 ds st = _; rw [b20]
/-- slots: 0 row 1 each 2 letter -/
def m_cells_of_row (F : Fn) : MS := (mRet (mLc false [1, 2] (gTp 2 (gCons (gNm 1) (gCons (gNm 2) gNil))) (mTest (mOp2 (opEq false) (mVar 2) (mCst (.str "c")))) (mVar 1) (mZp (mCons (mSl false (mVar 0) (some (mCst (.int 1))) none) (mCons (mOp1 (opTget t_SHAPES) (mOp2 opIx (mVar 0) (mCst (.int 0)))) mNil)))))
theorem b21 (F : Fn) : B 21 F = (1, 3, m_cells_of_row F) := by kernel_rfl
theorem c21 (n : Nat) (ds : List D) (st : Sto) : Fx (n + 1) 21 ds st = runB 1 3 (m_cells_of_row (Fx n)) ds st := by rw [fx, fx]; show runB (B 21 _).1 (B 21 _).2.1 (B 21 _).2.2 ds st = _; rw [b21]
/-- slots: 0 width 1 program 2 cells 3 found 4 wrong 5 index 6 row 7 cell -/
def m_run_program (F : Fn) : MS := (mSeq (mExp (mCall F 12 [.at 0] (mCons (mVar 0) mNil)))
    (mSeq (mAsg (gNm 3) (mCall F 16 [.at 0, .at 1] (mCons (mVar 0) (mCons (mVar 1) mNil))))
    (mSeq (mIfS (mTest (mOp2 (opEq true) (mVar 3) (mOpN (opLst false) mNil)))
    mBad
    mPass)
    (mSeq (mAsg (gNm 4) (mCall F 17 [.at 0, .at 1] (mCons (mVar 0) (mCons (mVar 2) mNil))))
    (mSeq (mIfS (mTest (mOp2 (opEq true) (mVar 4) (mOpN (opLst false) mNil)))
    mBad
    mPass)
    (mSeq (mFor (gTp 2 (gCons (gNm 5) (gCons (gNm 6) gNil))) (mEn (mCons (mVar 1) mNil))
    (mIfS (mTest (mOpN (opBls fun bs => .bl (bs.any id)) (mCons (mLc false [7] (gNm 7) mYes (mOp2 (opCmp fun i j => decide (j ≤ i)) (mVar 7) (mOpN (un1 opLen) (mCons (mVar 2) mNil))) (mIt (mCall F 21 [.at 0] (mCons (mVar 6) mNil)))) mNil)))
    mBad
    mPass))
    (mRet (mCall F 20 [.at 0, .at 1, .at 2] (mCons (mVar 0) (mCons (mVar 1) (mCons (mVar 2) mNil)))))))))))
theorem b22 (F : Fn) : B 22 F = (3, 8, m_run_program F) := by kernel_rfl
theorem c22 (n : Nat) (ds : List D) (st : Sto) : Fx (n + 1) 22 ds st = runB 3 8 (m_run_program (Fx n)) ds st := by rw [fx, fx]; show runB (B 22 _).1 (B 22 _).2.1 (B 22 _).2.2 ds st = _; rw [b22]
/-- slots: 0 _law_urn_here 1 _law_turn 2 _law_code_here 3 _law_cells 4 _law_width 5 _law_many 6 _law_due 7 _law_rows -/
def m_law_right (F : Fn) : MS := (mSeq (mFor (gNm 1) (mRg (mCons (mCst (.int 4)) mNil))
    (mSeq (mPar 4 5 (mCons (mOp2 (opAdd false) (mCst (.int 4)) (mCall F 1 [.at 0, .at 1] (mCons (mVar 0) (mCons (mCst (.int 29)) mNil)))) (mCons (mOp2 (opAdd false) (mCst (.int 1)) (mCall F 1 [.at 0, .at 1] (mCons (mVar 0) (mCons (mCst (.int 8)) mNil)))) mNil)))
    (mSeq (mAsg (gNm 2) (mCall F 4 [.at 0, .at 1, .at 2, .at 3] (mCons (mVar 0) (mCons (mVar 4) (mCons (mVar 5) (mCons (mOp2 (opAdd false) (mCst (.int 1)) (mCall F 1 [.at 0, .at 1] (mCons (mVar 0) (mCons (mCall F 2 [.at 0, .at 1] (mCons (mVar 0) (mCons (mOpN opTup (mCons (mCst (.int 6)) (mCons (mCst (.int 30)) (mCons (mCst (.int 60)) mNil)))) mNil))) mNil)))) mNil))))))
    (mSeq (mAsg (gNm 3) (mCall F 5 [.at 0, .at 1, .at 2] (mCons (mVar 0) (mCons (mVar 4) (mCons (mVar 5) mNil)))))
    (mSeq (mAsg (gTp 2 (gCons (gNm 6) (gCons (gNm 7) gNil))) (mCall F 7 [.at 0, .at 1, .at 2] (mCons (mVar 4) (mCons (mVar 2) (mCons (mVar 3) mNil)))))
    (mSeq (mIfS (mOrT (mTest (mOp2 (opCmp fun i j => decide (j < i)) (mVar 7) (mOpN (un1 opLen) (mCons (mVar 2) mNil)))) (mNotT (mTest (mCall F 8 [.at 0, .at 1] (mCons (mCall F 22 [.at 0, .at 1, .at 2] (mCons (mVar 4) (mCons (mVar 2) (mCons (mVar 3) mNil)))) (mCons (mVar 6) mNil))))))
    (mRet (mCst (.bl false)))
    mPass)
    (mIfS (mNotT (mTest (mCall F 8 [.at 0, .at 1] (mCons (mCallK F 22 [.at 2, .at 1, .at 0] mNil (mCons (mVar 3) (mCons (mVar 2) (mCons (mVar 4) mNil)))) (mCons (mVar 6) mNil)))))
    (mRet (mCst (.bl false)))
    mPass)))))))
    (mRet (mCst (.bl true))))
theorem b23 (F : Fn) : B 23 F = (1, 8, m_law_right F) := by kernel_rfl
theorem c23 (n : Nat) (ds : List D) (st : Sto) : Fx (n + 1) 23 ds st = runB 1 8 (m_law_right (Fx n)) ds st := by rw [fx, fx]; show runB (B 23 _).1 (B 23 _).2.1 (B 23 _).2.2 ds st = _; rw [b23]
/-- slots: 0 _law_script 1 _law_turn 2 _law_own 3 _law_seed 4 _law_cell -/
def m_law_urn (F : Fn) : MS := (mSeq (mAsg (gNm 2) (mIf (mTest (mOp2 (opCmp fun i j => decide (i < j)) (mVar 1) (mOpN (un1 opLen) (mCons (mVar 0) mNil)))) (mOpN opInt (mCons (mOp2 opIx (mVar 0) (mVar 1)) mNil)) (mCst (.int 0))))
    (mSeq (mAsg (gNm 3) (mOp2 (opAdd false) (mCst (.int 900007)) (mOp2 (opMul false) (mCst (.int 311)) (mVar 1))))
    (mSeq (mFor (gNm 4) (mIt (mSl false (mVar 0) none (some (mCst (.int 11)))))
    (mAsg (gNm 3) (mOp2 opMod (mOpN opInt (mCons (mOp2 (opAdd false) (mOp2 (opAdd false) (mOp2 (opMul false) (mVar 3) (mCst (.int 60013))) (mOp2 opMod (mOpN opInt (mCons (mVar 4) mNil)) (mCst (.int 2147483417)))) (mCst (.int 17))) mNil)) (mCst (.int 2147483563)))))
    (mSeq (mAsg (gNm 3) (mOp2 opMod (mOpN opInt (mCons (mOp2 (opAdd false) (mOp2 (opAdd false) (mOp2 (opMul false) (mVar 3) (mCst (.int 53))) (mOp2 (opMul false) (mOp2 opMod (mOpN opInt (mCons (mVar 2) mNil)) (mCst (.int 2147483417))) (mCst (.int 20011)))) (mCst (.int 5))) mNil)) (mCst (.int 2147483563))))
    (mRet (mOpN (opLst true) (mCons (mIf (mOrT (mTest (mOp2 (opCmp fun i j => decide (i < j)) (mVar 2) (mCst (.int 0)))) (mTest (mOp2 (opCmp fun i j => decide (j ≤ i)) (mVar 2) (mOp2 opPow (mCst (.int 10)) (mCst (.int 16)))))) (mOpN opAbs (mCons (mVar 2) mNil)) (mCst (.int 0))) (mCons (mVar 3) (mCons (mCst (.int 0)) mNil)))))))))
theorem b24 (F : Fn) : B 24 F = (2, 5, m_law_urn F) := by kernel_rfl
theorem c24 (n : Nat) (ds : List D) (st : Sto) : Fx (n + 1) 24 ds st = runB 2 5 (m_law_urn (Fx n)) ds st := by rw [fx, fx]; show runB (B 24 _).1 (B 24 _).2.1 (B 24 _).2.2 ds st = _; rw [b24]
/-- slots: 0 _law_script 1 _law_turn -/
def m_law (F : Fn) : MS := (mSeq (mFor (gNm 1) (mRg (mCons (mOpN opMax (mCons (mCst (.int 1)) (mCons (mOpN opMin (mCons (mOpN (un1 opLen) (mCons (mVar 0) mNil)) (mCons (mCst (.int 3)) mNil))) mNil))) mNil))
    (mIfS (mNotT (mTest (mCall F 23 [.at 0] (mCons (mCall F 24 [.at 0, .at 1] (mCons (mVar 0) (mCons (mVar 1) mNil))) mNil))))
    (mRet (mCst (.bl false)))
    mPass))
    (mRet (mCst (.bl true))))
theorem b25 (F : Fn) : B 25 F = (1, 2, m_law F) := by kernel_rfl
theorem c25 (n : Nat) (ds : List D) (st : Sto) : Fx (n + 1) 25 ds st = runB 1 2 (m_law (Fx n)) ds st := by rw [fx, fx]; show runB (B 25 _).1 (B 25 _).2.1 (B 25 _).2.2 ds st = _; rw [b25]
end K36
set_option maxHeartbeats 400000
namespace K36
open PySem PySem.Spec L2 Rf
/-! ### what the defs do -/
theorem pull_f (n : Nat) : PullF (Fx (n + 1)) 1 := fun s u k0 t U hk h0 h1 => by
  rw [c1]
  exact pull_ok (c1 := 39373) (c2 := 50021) (c3 := 11) (c4 := 2147483563) (c5 := 6007) (c6 := 30011) (c7 := 21474835870) (c8 := 127) (by decide) (by decide) (by decide) (by decide) (by decide) (by decide) (by decide) U hk h0 h1
theorem one_f (n : Nat) : OneF (Fx (n + 2)) 2 := fun s u k0 ds U hk h0 h1 => by
  rw [c2]
  exact one_ok (pull_f n) U hk h0 h1
theorem urn_f (n : Nat) (ns : List Int) (s : Sto) (t : Nat) (ht : t ≤ 1000000) : (Fx (n + 1) 24 [.ro (ns.map .int), .int t] s).wp fun d s' => d = .ref s.length ∧ Urn s' s.length 0 ∧ ∃ x, s' = s ++ [x] := by
  rw [c24]
  exact urn_ok (c1 := 900007) (c2 := 311) (c3 := 11) (c4 := 60013) (c5 := 2147483417) (c6 := 17) (c7 := 2147483563) (c8 := 53) (c9 := 2147483417) (c10 := 20011) (c11 := 5) (e1 := 10) (e2 := 16) (by decide) (by decide) (by decide) (by decide) (by decide) (by decide) (by decide) (by decide) (by decide) (by decide) ht
def tp2 (w : Int) : Int := 2 ^ (w.toNat - 1)
theorem tp2_pos (w : Int) : 0 < tp2 w := Int.pow_pos (by decide)
theorem tp2_le {w : Int} (h : w ≤ 40) : tp2 w ≤ 10 ^ 20 := by
  unfold tp2
  have h1 : w.toNat - 1 ≤ 39 := by omega
  have : (2 : Int) ^ (w.toNat - 1) ≤ 2 ^ 39 := by
    have := Nat.pow_le_pow_right (n := 2) (by decide) h1
    exact_mod_cast this
  exact Int.le_trans this (by decide)
theorem tp2_8 {w : Int} (h : 4 ≤ w) : 8 ≤ tp2 w := by
  unfold tp2
  have h1 : 3 ≤ w.toNat - 1 := by omega
  have : (2 : Int) ^ 3 ≤ 2 ^ (w.toNat - 1) := by
    have := Nat.pow_le_pow_right (n := 2) (by decide) h1
    exact_mod_cast this
  exact this
/-- a power, grown by doubling -/
theorem top_f (n : Nat) (s : Sto) (w : Int) (h1 : 1 ≤ w) (h2 : w ≤ 40) : Fx (n + 1) 0 [.int w] s = .ok (.int (tp2 w)) s := by
  rw [c0]
  have hl : ∀ (l : List D) (f : Int) (z : Option D) (all : List D), 0 < f → f * 2 ^ l.length ≤ 10 ^ 30 → ∃ z', forL (gNm 2) (mAsg (gNm 1) (mOp2 (opMul false) (mVar 1) (mCst (.int 2)))) none all l [some (.int w), some (.int f), z] s = .ok (.nx [some (.int w), some (.int (f * 2 ^ l.length)), z']) s := by
    intro l
    induction l with
    | nil => intro f z all _ _; exact ⟨z, by simp [forL, gstB]⟩
    | cons d r ih =>
      intro f z all hf hb
      have e : f * 2 ^ (r.length + 1) = (f * 2) * 2 ^ r.length := by rw [Int.pow_succ]; ac_rfl
      have hp : (1 : Int) ≤ 2 ^ r.length := Int.pow_pos (by decide)
      have hb' : (f * 2) * 2 ^ r.length ≤ 10 ^ 30 := by rw [← e]; exact hb
      have hf2 : f * 2 ≤ 10 ^ 30 := Int.le_trans (by have := Int.mul_le_mul_of_nonneg_left hp (show 0 ≤ f * 2 by omega); omega) hb'
      obtain ⟨z', h⟩ := ih (f * 2) (some d) all (by omega) hb'
      refine ⟨z', ?_⟩
      unfold forL
      simp (disch := omega) [gstB]
      rw [h, e]
  have hb : (1 : Int) * 2 ^ (rgI 0 (w - 1)).length ≤ 10 ^ 30 := by
    rw [rgI_len, Int.one_mul, show (w - 1 - 0).toNat = w.toNat - 1 by omega]
    exact Int.le_trans (tp2_le h2) (by decide)
  obtain ⟨z', h⟩ := hl (rgI 0 (w - 1)) 1 none (rgI 0 (w - 1)) (by decide) hb
  have hr : rgB 0 (w - 1) = true := rgB_yes _ _ (by omega) (by omega) (by omega) (by omega) (by omega)
  simp [runB, m_law_top, hr, h, rgI_len]
  rfl
def wr (T x : Int) : Int := (x + T) % (2 * T) - T
theorem wr_le {T x : Int} (h : 0 < T) : -T ≤ wr T x ∧ wr T x < T := by
  unfold wr
  have h0 := Int.emod_nonneg (x + T) (show 2 * T ≠ 0 by omega)
  have h1 := Int.emod_lt_of_pos (x + T) (show 0 < 2 * T by omega)
  omega
theorem wrap_f (n : Nat) (s : Sto) (w x : Int) (h1 : 1 ≤ w) (h2 : w ≤ 40) : Fx (n + 2) 6 [.int w, .int x] s = .ok (.int (wr (tp2 w) x)) s := by
  rw [c6]
  have := tp2_pos w
  have := tp2_le h2
  simp (disch := omega) [runB, m_law_wrap, top_f n s w h1 h2]
  rfl
theorem whole_f (n : Nat) (s : Sto) (i : Int) : Fx (n + 1) 9 [.int i] s = .ok (.bl true) s := by
  rw [c9]
  simp [runB, m_is_whole, Ty.sub]
theorem between_f (n : Nat) (s : Sto) (i a b : Int) (h : a ≤ i) (h' : i ≤ b) : Fx (n + 2) 10 [.int i, .int a, .int b] s = .ok (.bl true) s := by
  rw [c10]
  simp [runB, m_is_between, whole_f, h, h']
theorem check_f (n : Nat) (s : Sto) (i a b : Int) (h : a ≤ i) (h' : i ≤ b) : Fx (n + 3) 11 [.int i, .int a, .int b] s = .ok .non s := by
  rw [c11]
  simp [runB, m_check_number, between_f n s i a b h h']
theorem width_f (n : Nat) (s : Sto) (w : Int) (h : 4 ≤ w) (h' : w ≤ 32) : Fx (n + 4) 12 [.int w] s = .ok .non s := by
  rw [c12]
  simp [runB, m_check_width, check_f n s w 4 32 h h']
theorem wr_alt {T x : Int} (h : 0 < T) : (if T ≤ x % (2 * T) then x % (2 * T) - 2 * T else x % (2 * T)) = wr T x := by
  have h0 := Int.emod_nonneg x (show 2 * T ≠ 0 by omega)
  have h1 := Int.emod_lt_of_pos x (show 0 < 2 * T by omega)
  have e : (x + T) % (2 * T) = (x % (2 * T) + T) % (2 * T) := by rw [Int.emod_add_emod]
  unfold wr
  rw [e]
  generalize x % (2 * T) = r at *
  split
  · have e2 : (r + T) % (2 * T) = r + T - 2 * T := by
      rw [← Int.sub_emod_right (r + T) (2 * T)]
      exact Int.emod_eq_of_lt (by omega) (by omega)
    omega
  · rw [Int.emod_eq_of_lt (by omega) (by omega)]
    omega
theorem by_f (n : Nat) (s : Sto) (w x : Int) (h1 : 4 ≤ w) (h2 : w ≤ 32) : Fx (n + 1) 18 [.int w, .int x] s = .ok (.int (wr (tp2 w) x)) s := by
  rw [c18]
  have hp := tp2_pos w
  have e : (1 : Int) * 2 ^ w.toNat = 2 * tp2 w := by
    have e2 : (2 : Int) ^ w.toNat = 2 ^ (w.toNat - 1) * 2 := by
      rw [← Int.pow_succ]
      congr 1
      omega
    unfold tp2
    omega
  have hd : 2 * tp2 w / 2 = tp2 w := by omega
  have sh : opShl (.int 1) (.int w) s = .ok (.int (2 * tp2 w)) s := by
    rw [o_shl 1 w (by omega) (by omega) (by decide) (by decide), e]
  simp (disch := omega) [runB, m_wrapped_by, sh, hd]
  rw [← wr_alt hp]
  split <;> rfl
theorem words_f (n : Nat) (s : Sto) (w : Int) (h1 : 4 ≤ w) (h2 : w ≤ 32) : Fx (n + 1) 13 [.int w] s = .ok (.tup [.int (-(tp2 w)), .int (tp2 w - 1)]) s := by
  rw [c13]
  have sh : opShl (.int 1) (.int (w - 1)) s = .ok (.int (tp2 w)) s := by
    rw [o_shl 1 (w - 1) (by omega) (by omega) (by decide) (by decide)]
    unfold tp2
    rw [Int.one_mul, show (w - 1).toNat = w.toNat - 1 by omega]
  simp [runB, m_words_of, sh]
theorem word_f (n : Nat) (s : Sto) (u : Nat) (k0 w : Int) (U : Urn s u k0) (hk : k0 ≤ 10 ^ 50) (h1 : 4 ≤ w) (h2 : w ≤ 32) :
    (Fx (n + 3) 3 [.ref u, .int w] s).wp fun d s' => ∃ x, d = .int x ∧ -(tp2 w) ≤ x ∧ x < tp2 w ∧ Urn s' u (k0 + 3) ∧ Kp u s s' := by
  rw [c3]
  have hp := tp2_pos w
  have hq := tp2_le (w := w) (by omega)
  simp (disch := omega) [runB, m_law_word, top_f (n + 1) s w (by omega) (by omega)]
  refine R.wp_mono (pull_f (n + 1) s u k0 (2 * tp2 w) U (by omega) (by omega) (by omega)) fun d s1 h => ?_
  obtain ⟨x, rfl, x0, x1, U1, K1⟩ := h
  simp
  refine R.wp_mono (pull_f (n + 1) s1 u (k0 + 1) 12 U1 (by omega) (by omega) (by omega)) fun d s2 h => ?_
  obtain ⟨y, rfl, y0, y1, U2, K2⟩ := h
  simp
  refine R.wp_mono (one_f n s2 u (k0 + 1 + 1) _ U2 (by omega) (by simp) (by simp)) fun d s3 h => ?_
  obtain ⟨hd, U3, K3⟩ := h
  have : ∃ z : Int, d = .int z := by
    simp at hd
    rcases hd with rfl | rfl | rfl | rfl | rfl | rfl | rfl | rfl | rfl | rfl | rfl | rfl <;> exact ⟨_, rfl⟩
  obtain ⟨z, rfl⟩ := this
  simp
  have U4 : Urn s3 u (k0 + 3) := by rw [show k0 + 3 = k0 + 1 + 1 + 1 by omega]; exact U3
  refine ⟨?_, ?_, U4, (K1.trans K2).trans K3⟩ <;> (split <;> (try split) <;> omega)
/-! ### rows -/
inductive Rw where
  | put (a : Nat) (x : Int) | copy (a b : Nat) | add (a b c : Nat) | less (a b c : Nat) | times (a b : Nat) (x : Int) | jump (r : Nat) | below (a b r : Nat)
def rwd : Rw → D
  | .put a x => .tup [.str "put", .int a, .int x]
  | .copy a b => .tup [.str "copy", .int a, .int b]
  | .add a b c => .tup [.str "add", .int a, .int b, .int c]
  | .less a b c => .tup [.str "less", .int a, .int b, .int c]
  | .times a b x => .tup [.str "times", .int a, .int b, .int x]
  | .jump r => .tup [.str "jump", .int r]
  | .below a b r => .tup [.str "below", .int a, .int b, .int r]
abbrev stopd : D := .tup [.str "stop"]
/-- a row that fits, at a place -/
def okR (T : Int) (m i many : Nat) : Rw → Prop
  | .put a x => a < m ∧ -T ≤ x ∧ x < T
  | .copy a b => a < m ∧ b < m
  | .add a b c => a < m ∧ b < m ∧ c < m
  | .less a b c => a < m ∧ b < m ∧ c < m
  | .times a b x => a < m ∧ b < m ∧ -T ≤ x ∧ x < T
  | .jump r => i < r ∧ r < many
  | .below a b r => a < m ∧ b < m ∧ i < r ∧ r < many
def okP (T : Int) (m : Nat) (P : List Rw) : Prop := ∀ i r, P[i]? = some r → okR T m i (P.length + 1) r
abbrev cdd (P : List Rw) : D := .tup (P.map rwd ++ [stopd])
abbrev ild (cs : List Int) : List D := cs.map .int
/-- what a row does -/
def stepM (T : Int) (i : Nat) (cs : List Int) : Rw → Nat × List Int
  | .put a x => (i + 1, cs.set a x)
  | .copy a b => (i + 1, cs.set a (cs.getD b 0))
  | .add a b c => (i + 1, cs.set a (wr T (cs.getD b 0 + cs.getD c 0)))
  | .less a b c => (i + 1, cs.set a (wr T (cs.getD b 0 - cs.getD c 0)))
  | .times a b x => (i + 1, cs.set a (wr T (cs.getD b 0 * x)))
  | .jump r => (r, cs)
  | .below a b r => (if cs.getD a 0 < cs.getD b 0 then r else i + 1, cs)
def runM (T : Int) (P : List Rw) : Nat → Nat → List Int → List Int × Nat
  | 0, _, cs => (cs, 0)
  | f + 1, i, cs => match P[i]? with
    | none => (cs, 0)
    | some r => ((runM T P f (stepM T i cs r).1 (stepM T i cs r).2).1, (runM T P f (stepM T i cs r).1 (stepM T i cs r).2).2 + 1)
theorem runM_le (T : Int) (P : List Rw) : ∀ f i cs, (runM T P f i cs).2 ≤ f
  | 0, _, _ => Nat.le_refl _
  | f + 1, i, cs => by
    unfold runM
    split
    · exact Nat.zero_le _
    · have := runM_le T P f
      exact Nat.succ_le_succ (this _ _)
theorem step_on {T : Int} {m i many : Nat} {cs : List Int} {r : Rw} (h : okR T m i many r) (hi : i + 1 < many) : i < (stepM T i cs r).1 ∧ (stepM T i cs r).1 < many := by
  cases r <;> simp only [stepM, okR] at * <;> (try split) <;> omega
def okC (T : Int) (m : Nat) (cs : List Int) : Prop := cs.length = m ∧ ∀ x ∈ cs, -T ≤ x ∧ x < T
theorem okC.set {T : Int} {m : Nat} {cs : List Int} (h : okC T m cs) (a : Nat) {x : Int} (hx : -T ≤ x ∧ x < T) : okC T m (cs.set a x) := ⟨by simpa using h.1, fun y hy => by
  rcases List.mem_or_eq_of_mem_set hy with q | q
  · exact h.2 y q
  · rw [q]; exact hx⟩
theorem okC.get {T : Int} {m : Nat} {cs : List Int} (h : okC T m cs) {a : Nat} (ha : a < m) : -T ≤ cs.getD a 0 ∧ cs.getD a 0 < T := by
  rw [List.getD_eq_getElem?_getD, List.getElem?_eq_getElem (by rw [h.1]; exact ha)]
  exact h.2 _ (List.getElem_mem _)
theorem okC.step {T : Int} {m i many : Nat} {cs : List Int} {r : Rw} (hT : 0 < T) (h : okC T m cs) (hr : okR T m i many r) : okC T m (stepM T i cs r).2 := by
  cases r with
  | put a x => exact h.set a hr.2
  | copy a b => exact h.set a (h.get hr.2)
  | add a b c => exact h.set a (wr_le hT)
  | less a b c => exact h.set a (wr_le hT)
  | times a b x => exact h.set a (wr_le hT)
  | jump r => exact h
  | below a b r => exact h
end K36
set_option maxHeartbeats 400000
set_option exponentiation.threshold 1000
namespace K36
open PySem PySem.Spec L2 Rf
/-! ### both machines -/
def isSet : Rw → Bool
  | .jump _ => false
  | .below .. => false
  | _ => true
def tgt : Rw → Nat
  | .put a _ => a
  | .copy a _ => a
  | .add a _ _ => a
  | .less a _ _ => a
  | .times a _ _ => a
  | _ => 0
def valM (T : Int) (cs : List Int) : Rw → Int
  | .put _ x => x
  | .copy _ b => cs.getD b 0
  | .add _ b c => wr T (cs.getD b 0 + cs.getD c 0)
  | .less _ b c => wr T (cs.getD b 0 - cs.getD c 0)
  | .times _ b x => wr T (cs.getD b 0 * x)
  | _ => 0
theorem step_set {T : Int} {i : Nat} {cs : List Int} {r : Rw} (h : isSet r = true) : stepM T i cs r = (i + 1, cs.set (tgt r) (valM T cs r)) := by
  cases r <;> first | rfl | cases h
theorem runM_fuel {T : Int} {m : Nat} {P : List Rw} (ok : okP T m P) : ∀ (f f' i : Nat) (cs : List Int), P.length - i ≤ f → P.length - i ≤ f' → runM T P f i cs = runM T P f' i cs := by
  intro f
  induction f with
  | zero =>
    intro f' i cs h _
    cases f' with
    | zero => rfl
    | succ f' =>
      unfold runM
      rw [List.getElem?_eq_none (by omega)]
  | succ f ih =>
    intro f' i cs h h'
    cases f' with
    | zero =>
      unfold runM
      rw [List.getElem?_eq_none (by omega)]
    | succ f' =>
      unfold runM
      cases e : P[i]? with
      | none => rfl
      | some r =>
        have hi := (List.getElem?_eq_some_iff.mp e).1
        obtain ⟨q1, q2⟩ := step_on (T := T) (cs := cs) (ok i r e) (by omega)
        dsimp only
        rw [ih f' _ _ (by omega) (by omega)]
/-- the whole run -/
def runP (T : Int) (P : List Rw) (i : Nat) (cs : List Int) : List Int × Nat := runM T P (P.length - i) i cs
theorem runP_end {T : Int} {P : List Rw} {cs : List Int} : runP T P P.length cs = (cs, 0) := by
  unfold runP
  rw [Nat.sub_self]
  rfl
theorem runP_on {T : Int} {m : Nat} {P : List Rw} (ok : okP T m P) {i : Nat} {cs : List Int} {r : Rw} (h : P[i]? = some r) : runP T P i cs = ((runP T P (stepM T i cs r).1 (stepM T i cs r).2).1, (runP T P (stepM T i cs r).1 (stepM T i cs r).2).2 + 1) := by
  have hi := (List.getElem?_eq_some_iff.mp h).1
  obtain ⟨q1, q2⟩ := step_on (T := T) (cs := cs) (ok i r h) (by omega)
  have e : P.length - i = (P.length - i - 1) + 1 := by omega
  unfold runP
  rw [e]
  conv => lhs; unfold runM
  rw [h]
  dsimp only
  rw [runM_fuel ok (P.length - i - 1) (P.length - (stepM T i cs r).1) _ _ (by omega) (Nat.le_refl _)]
theorem runP_ok {T : Int} {m : Nat} {P : List Rw} (hT : 0 < T) (ok : okP T m P) : ∀ (f i : Nat) (cs : List Int), P.length - i ≤ f → i ≤ P.length → okC T m cs → okC T m (runP T P i cs).1 := by
  intro f
  induction f with
  | zero =>
    intro i cs h hi hc
    have : i = P.length := by omega
    subst this
    rw [runP_end]
    exact hc
  | succ f ih =>
    intro i cs h hi hc
    cases e : P[i]? with
    | none =>
      have : i = P.length := by have := List.getElem?_eq_none_iff.mp e; omega
      subst this
      rw [runP_end]
      exact hc
    | some r =>
      have hl := (List.getElem?_eq_some_iff.mp e).1
      obtain ⟨q1, q2⟩ := step_on (T := T) (cs := cs) (ok i r e) (by omega)
      rw [runP_on ok e]
      exact ih _ _ (by omega) (by omega) (hc.step hT (ok i r e))
section
variable {s : Sto}
theorem ix_row {P : List Rw} {i : Nat} {r : Rw} (h : P[i]? = some r) : opIx (cdd P) (.int i) s = .ok (rwd r) s := by
  have hl := (List.getElem?_eq_some_iff.mp h).1
  rw [o_ixT _ _ (by omega) (by simp; omega)]
  congr 1
  rw [List.getD_eq_getElem?_getD, Int.toNat_natCast, List.getElem?_append_left (by simpa using hl), List.getElem?_map, h]
  rfl
theorem ix_stop {P : List Rw} : opIx (cdd P) (.int P.length) s = .ok stopd s := by
  rw [o_ixT _ _ (by omega) (by simp; omega)]
  congr 1
  rw [List.getD_eq_getElem?_getD, Int.toNat_natCast, List.getElem?_append_right (by simp)]
  simp
def nmOf : Rw → Str
  | .put .. => "put"
  | .copy .. => "copy"
  | .add .. => "add"
  | .less .. => "less"
  | .times .. => "times"
  | .jump .. => "jump"
  | .below .. => "below"
theorem row0 (r : Rw) : opIx (rwd r) (.int 0) s = .ok (.str (nmOf r)) s := by cases r <;> exact o_ix0 _ _
theorem nm_stop (r : Rw) : nmOf r ≠ "stop" := by cases r <;> simp [nmOf]
theorem row1 {r : Rw} (h : isSet r = true) : opIx (rwd r) (.int 1) s = .ok (.int (tgt r)) s := by
  cases r <;> first | exact o_ix1 _ _ _ | cases h
end
theorem reck_f (n : Nat) (s : Sto) (w : Int) (h1 : 4 ≤ w) (h2 : w ≤ 32) {i many m q : Nat} {cs : List Int} {r : Rw} (hs : isSet r = true) (hc : okC (tp2 w) m cs) (hr : okR (tp2 w) m i many r) (hq : s[q]? = some (.lst (ild cs))) :
    Fx (n + 2) 19 [.int w, rwd r, .ref q] s = .ok (.int (valM (tp2 w) cs r)) s := by
  have ix := fun (b : Nat) (hb : b < m) => ix_ints hq (b := b) (by rw [hc.1]; exact hb)
  have hp := tp2_le (w := w) (by omega)
  rw [c19]
  cases r with
  | put a x => simp [runB, m_reckoned, rwd, valM]
  | copy a b => simp [runB, m_reckoned, rwd, valM, ix b hr.2]
  | add a b c => simp [runB, m_reckoned, rwd, valM, ix b hr.2.1, ix c hr.2.2, by_f n s w _ h1 h2]
  | less a b c => simp [runB, m_reckoned, rwd, valM, ix b hr.2.1, ix c hr.2.2, by_f n s w _ h1 h2]
  | times a b x =>
    have g1 := hc.get hr.2.1
    have g2 := hr.2.2
    have mm : opMul false (.int (cs.getD b 0)) (.int x) s = .ok (.int (cs.getD b 0 * x)) s := o_mul _ _ _ (by omega) (by omega) (by omega) (by omega)
    simp only [List.getD_eq_getElem?_getD] at mm
    simp [runB, m_reckoned, rwd, valM, ix b hr.2.1, by_f n s w _ h1 h2, mm]
  | jump r => cases hs
  | below a b r => cases hs
/-- the cells from now on -/
theorem set_ints {s : Sto} {q a : Nat} {cs : List Int} {x : Int} (hq : s[q]? = some (.lst (ild cs))) (ha : a < cs.length) : setIx (.ref q) (.int a) (.int x) s = some (s.set q (.lst (ild (cs.set a x)))) := by
  rw [setIx_S hq (by omega) (by simpa using ha)]
  simp [ild, List.map_set]
theorem tgt_lt {T : Int} {m i many : Nat} {r : Rw} (hs : isSet r = true) (h : okR T m i many r) : tgt r < m := by
  cases r <;> simp [isSet, okR, tgt] at * <;> omega
theorem nm_set {r : Rw} (hs : isSet r = true) : nmOf r ≠ "jump" ∧ nmOf r ≠ "below" := by
  cases r <;> simp [isSet, nmOf] at *
def IvP (w : Int) (m : Nat) (P : List Rw) (cs : List Int) (s : Sto) (k : Nat) (env : Ev) (st : Sto) : Prop := ∃ (i : Nat) (cs' : List Int) (z5 : Option D), env = [some (.int w), some (cdd P), some (.tup (ild cs)), some (.ref s.length), some (.int i), z5] ∧ st[s.length]? = some (.lst (ild cs')) ∧ okC (tp2 w) m cs' ∧ i ≤ P.length ∧ k = P.length - i ∧
    (runP (tp2 w) P 0 cs).1 = (runP (tp2 w) P i cs').1 ∧ Gr s st
theorem run_f (n : Nat) (s : Sto) (w : Int) (h1 : 4 ≤ w) (h2 : w ≤ 32) {m : Nat} {cs : List Int} {P : List Rw} (hm : m ≤ 1000) (hP : P.length ≤ 1000) (hc : okC (tp2 w) m cs) (ok : okP (tp2 w) m P) :
    (Fx (n + 3) 20 [.int w, cdd P, .tup (ild cs)] s).wp fun d s' => d = .tup (ild (runP (tp2 w) P 0 cs).1) ∧ Gr s s' := by
  have hT := tp2_pos w
  rw [c20]
  unfold runB m_run_program_by
  rw [if_pos (show [D.int w, cdd P, D.tup (ild cs)].length = 3 from rfl), wp_bd']
  refine wp_seq (R.wp_mono (Q := fun f s1 => f = .nx [some (.int w), some (cdd P), some (.tup (ild cs)), some (.ref s.length), some (.int 0), none] ∧ s1 = s ++ [.lst (ild cs)]) ?_ ?_)
  · have e : opLstOf true (.tup (ild cs)) s = .ok (.ref s.length) (s ++ [.lst (ild cs)]) := rfl
    simp [e]
  rintro _ _ ⟨rfl, rfl⟩
  refine wp_seq ?_
  rw [x_whl]
  refine whl_wp (IvP w m P cs s) ?_ 1000000 P.length _ _ (by omega) ⟨0, cs, none, rfl, app_at _ _, hc, Nat.zero_le _, rfl, rfl, Gr.push _ _⟩
  rintro k env st ⟨i, cs', z5, rfl, hq, hc', hi, rfl, er, G⟩
  cases e : P[i]? with
  | none =>
    have : i = P.length := by have := List.getElem?_eq_none_iff.mp e; omega
    subst this
    rw [runP_end] at er
    have hs := ix_stop (s := st) (P := P)
    simp [hs]
    have ot := opTupOf_ref hq
    simp [ot, er, G]
  | some r =>
    have hl := (List.getElem?_eq_some_iff.mp e).1
    have okr := ok i r e
    obtain ⟨q1, q2⟩ := step_on (T := tp2 w) (cs := cs') okr (by omega)
    rw [runP_on ok e] at er
    have hs := ix_row (s := st) e
    have hn := nm_stop r
    simp [hs, row0, hn]
    by_cases his : isSet r = true
    · have rk := reck_f n st w h1 h2 his hc' okr hq
      have r1 := row1 (s := st) his
      have nj := nm_set his
      have st1 := set_ints (x := valM (tp2 w) cs' r) hq (a := tgt r) (by rw [hc'.1]; exact tgt_lt his okr)
      simp [nj.1, nj.2, rk, r1, st1]
      have es := step_set (T := tp2 w) (i := i) (cs := cs') his
      rw [es] at q1 q2 er
      refine ⟨P.length - (i + 1), by omega, i + 1, cs'.set (tgt r) (valM (tp2 w) cs' r), _, by simp; rfl, by simp [ild, List.map_set]; exact set_at hq _, ?_, by omega, rfl, er, G.set (Nat.le_refl _) _⟩
      · have := hc'.step (i := i) (many := P.length + 1) hT okr
        rw [es] at this
        exact this
    cases r with
    | jump t =>
      simp [nmOf, rwd]
      simp only [stepM] at q1 q2 er
      exact ⟨P.length - t, by omega, t, cs', _, rfl, hq, hc', by omega, rfl, er, G⟩
    | below a b t =>
      have ia := ix_ints hq (b := a) (by rw [hc'.1]; exact okr.1)
      have ib := ix_ints hq (b := b) (by rw [hc'.1]; exact okr.2.1)
      simp [nmOf, rwd, ia, ib]
      by_cases hlt : cs'.getD a 0 < cs'.getD b 0
      · have hlt2 : cs'[a]?.getD 0 < cs'[b]?.getD 0 := by simpa using hlt
        simp [hlt2]
        have e1 : (stepM (tp2 w) i cs' (.below a b t)).1 = t := by simp [stepM, hlt2]
        rw [e1] at q1 q2 er
        exact ⟨P.length - t, by omega, t, cs', _, rfl, hq, hc', by omega, rfl, er, G⟩
      · have hlt2 : ¬ cs'[a]?.getD 0 < cs'[b]?.getD 0 := by simpa using hlt
        simp [hlt2]
        have e1 : (stepM (tp2 w) i cs' (.below a b t)).1 = i + 1 := by simp [stepM, hlt2]
        rw [e1] at q1 q2 er
        exact ⟨P.length - (i + 1), by omega, i + 1, cs', _, rfl, hq, hc', by omega, rfl, er, G⟩
    | _ => exact absurd rfl his
end K36
set_option maxHeartbeats 400000
set_option exponentiation.threshold 1000
namespace K36
open PySem PySem.Spec L2 Rf
/-! ### the law's own machine -/
section
variable {s : Sto}
theorem m1_2 (a b : D) : opIx (.tup [a, b]) (.int (-1)) s = .ok b s := ix_last (ds := [a])
theorem m1_4 (a b c d : D) : opIx (.tup [a, b, c, d]) (.int (-1)) s = .ok d s := ix_last (ds := [a, b, c])
theorem in_al (x : Str) : opIn false (.str x) (.tup [.str "add", .str "less"]) s = .ok (.bl (decide (x = "add") || decide (x = "less"))) s := by
  show (if flatD (.str x) && [D.str "add", .str "less"].all flatD then R.ok (D.bl (inF (.str x) [.str "add", .str "less"])) s else .bad) = _
  have e : inF (.str x) [.str "add", .str "less"] = (decide (x = "add") || decide (x = "less")) := by
    simp only [inF, eqF, List.any_cons, List.any_nil, Bool.or_false]
    congr 1 <;> (rw [Bool.eq_iff_iff]; simp; exact eq_comm)
  rw [e]
  exact if_pos (by simp [flatD])
end
def IvL (w : Int) (m : Nat) (P : List Rw) (cs : List Int) (s : Sto) (k : Nat) (env : Ev) (st : Sto) : Prop := ∃ (i j : Nat) (cs' : List Int) (z6 z7 : Option D), env = [some (.int w), some (cdd P), some (.tup (ild cs)), some (.ref s.length), some (.int i), some (.int j), z6, z7] ∧ st[s.length]? = some (.lst (ild cs')) ∧ okC (tp2 w) m cs' ∧ i ≤ P.length ∧ k = P.length - i ∧
    (runP (tp2 w) P 0 cs).1 = (runP (tp2 w) P i cs').1 ∧ (runP (tp2 w) P 0 cs).2 = j + (runP (tp2 w) P i cs').2 ∧ Gr s st
theorem law_f (n : Nat) (s : Sto) (w : Int) (h1 : 4 ≤ w) (h2 : w ≤ 32) {m : Nat} {cs : List Int} {P : List Rw} (hm : m ≤ 1000) (hP : P.length ≤ 1000) (hc : okC (tp2 w) m cs) (ok : okP (tp2 w) m P) :
    (Fx (n + 3) 7 [.int w, cdd P, .tup (ild cs)] s).wp fun d s' => d = .tup [.tup (ild (runP (tp2 w) P 0 cs).1), .int ((runP (tp2 w) P 0 cs).2 + 1 : Nat)] ∧ Gr s s' := by
  have hT := tp2_pos w
  have hT2 := tp2_le (w := w) (by omega)
  rw [c7]
  unfold runB m_law_machine
  rw [if_pos (show [D.int w, cdd P, D.tup (ild cs)].length = 3 from rfl), wp_bd']
  refine wp_seq (R.wp_mono (Q := fun f s1 => f = .nx [some (.int w), some (cdd P), some (.tup (ild cs)), some (.ref s.length), some (.int 0), some (.int 0), none, none] ∧ s1 = s ++ [.lst (ild cs)]) ?_ ?_)
  · have e : opLstOf true (.tup (ild cs)) s = .ok (.ref s.length) (s ++ [.lst (ild cs)]) := rfl
    simp [e]
  rintro _ _ ⟨rfl, rfl⟩
  refine wp_seq ?_
  rw [x_whl]
  refine whl_wp (IvL w m P cs s) ?_ 1000000 P.length _ _ (by omega) ⟨0, 0, cs, none, none, rfl, app_at _ _, hc, Nat.zero_le _, rfl, rfl, by simp, Gr.push _ _⟩
  rintro k env st ⟨i, j, cs', z6, z7, rfl, hq, hc', hi, rfl, er, en, G⟩
  cases e : P[i]? with
  | none =>
    have : i = P.length := by have := List.getElem?_eq_none_iff.mp e; omega
    subst this
    rw [runP_end] at er en
    have hs := ix_stop (s := st) (P := P)
    simp [hs]
    have ot := opTupOf_ref hq
    simp [ot, er, en, G]
  | some r =>
    have hl := (List.getElem?_eq_some_iff.mp e).1
    have okr := ok i r e
    obtain ⟨q1, q2⟩ := step_on (T := tp2 w) (cs := cs') okr (by omega)
    rw [runP_on ok e] at er en
    have hs := ix_row (s := st) e
    have hn := nm_stop r
    have hset : ∀ (z7 : Option D) (a : Nat) (x : Int), stepM (tp2 w) i cs' r = (i + 1, cs'.set a x) → IvL w m P cs s (P.length - (i + 1)) [some (.int w), some (cdd P), some (.tup (ild cs)), some (.ref s.length), some (.int (i + 1)), some (.int (j + 1)), some (rwd r), z7] (st.set s.length (.lst ((ild cs').set a (.int x)))) := by
      intro z7 a x es
      rw [es] at q1 q2 er en
      dsimp only at q1 q2 er en
      refine ⟨i + 1, j + 1, cs'.set a x, _, z7, by simp; rfl, by simp [ild, List.map_set]; exact set_at hq _, ?_, by omega, rfl, er, by omega, G.set (Nat.le_refl _) _⟩
      have := hc'.step (i := i) (many := P.length + 1) hT okr
      rw [es] at this
      exact this
    have ix := fun (b : Nat) (hb : b < m) => ix_ints hq (b := b) (by rw [hc'.1]; exact hb)
    have sx := fun (a : Nat) (x : Int) (ha : a < m) => set_ints (x := x) hq (a := a) (by rw [hc'.1]; exact ha)
    simp [hs, row0, hn]
    cases r with
    | put a x =>
      have q := hset z7 a x rfl
      simp [nmOf, rwd, sx a x okr.1] at q ⊢
      exact ⟨P.length - (i + 1), by omega, q⟩
    | copy a b =>
      have q := hset z7 a _ rfl
      simp [nmOf, rwd, ix b okr.2, sx a _ okr.1] at q ⊢
      exact ⟨P.length - (i + 1), by omega, q⟩
    | add a b c =>
      have g1 := hc'.get okr.2.1
      have g2 := hc'.get okr.2.2
      have mm : opMul false (.int 1) (.int (cs'.getD c 0)) st = .ok (.int (1 * cs'.getD c 0)) st := o_mul _ _ _ (by omega) (by omega) (by omega) (by omega)
      have wq := wrap_f n st w (cs'.getD b 0 + 1 * cs'.getD c 0) (by omega) (by omega)
      rw [Int.one_mul] at mm wq
      have q := hset (some (.int 1)) a _ rfl
      simp only [List.getD_eq_getElem?_getD] at mm wq
      simp [nmOf, rwd, ix b okr.2.1, ix c okr.2.2, sx a _ okr.1, in_al, mm, wq] at q ⊢
      exact ⟨P.length - (i + 1), by omega, q⟩
    | less a b c =>
      have g1 := hc'.get okr.2.1
      have g2 := hc'.get okr.2.2
      have mm : opMul false (.int (-1)) (.int (cs'.getD c 0)) st = .ok (.int (-1 * cs'.getD c 0)) st := o_mul _ _ _ (by omega) (by omega) (by omega) (by omega)
      have wq : Fx (n + 2) 6 [.int w, .int (cs'.getD b 0 + -(cs'.getD c 0))] st = .ok (.int (wr (tp2 w) (cs'.getD b 0 - cs'.getD c 0))) st := by
        have := wrap_f n st w (cs'.getD b 0 + -(cs'.getD c 0)) (by omega) (by omega)
        rwa [show wr (tp2 w) (cs'.getD b 0 + -(cs'.getD c 0)) = wr (tp2 w) (cs'.getD b 0 - cs'.getD c 0) from congrArg _ (by omega)] at this
      have q := hset (some (.int (-1))) a _ rfl
      simp only [List.getD_eq_getElem?_getD] at mm wq
      have ne : ("less" : String) ≠ "add" := by decide
      simp [nmOf, rwd, ix b okr.2.1, ix c okr.2.2, sx a _ okr.1, in_al, mm, wq] at q ⊢
      exact ⟨P.length - (i + 1), by omega, q⟩
    | times a b x =>
      have g1 := hc'.get okr.2.1
      have mm : opMul false (.int (cs'.getD b 0)) (.int x) st = .ok (.int (cs'.getD b 0 * x)) st := o_mul _ _ _ (by omega) (by omega) (by have := okr.2.2; omega) (by have := okr.2.2; omega)
      have wq := wrap_f n st w (cs'.getD b 0 * x) (by omega) (by omega)
      have q := hset z7 a _ rfl
      simp only [List.getD_eq_getElem?_getD] at mm wq
      simp [nmOf, rwd, ix b okr.2.1, sx a _ okr.1, mm, wq] at q ⊢
      exact ⟨P.length - (i + 1), by omega, q⟩
    | jump t =>
      simp only [stepM] at q1 q2 er en
      simp [nmOf, rwd, m1_2, in_al]
      exact ⟨P.length - t, by omega, t, j + 1, cs', _, z7, by simp; rfl, hq, hc', by omega, rfl, er, by omega, G⟩
    | below a b t =>
      have ia := ix a okr.1
      have ib := ix b okr.2.1
      simp [nmOf, rwd, ia, ib, m1_4, in_al]
      by_cases hlt : cs'.getD a 0 < cs'.getD b 0
      · have hlt2 : cs'[a]?.getD 0 < cs'[b]?.getD 0 := by simpa using hlt
        simp [hlt2]
        have e1 : (stepM (tp2 w) i cs' (.below a b t)) = (t, cs') := by simp [stepM, hlt2]
        rw [e1] at q1 q2 er en
        dsimp only at q1 q2 er en
        exact ⟨P.length - t, by omega, t, j + 1, cs', _, z7, by simp; rfl, hq, hc', by omega, rfl, er, by omega, G⟩
      · have hlt2 : ¬ cs'[a]?.getD 0 < cs'[b]?.getD 0 := by simpa using hlt
        simp [hlt2]
        have e1 : (stepM (tp2 w) i cs' (.below a b t)) = (i + 1, cs') := by simp [stepM, hlt2]
        rw [e1] at q1 q2 er en
        dsimp only at q1 q2 er en
        exact ⟨P.length - (i + 1), by omega, i + 1, j + 1, cs', _, z7, by simp; rfl, hq, hc', by omega, rfl, er, by omega, G⟩
end K36
set_option maxHeartbeats 400000
set_option exponentiation.threshold 1000
namespace K36
open PySem PySem.Spec L2 Rf
/-! ### the program's looks at programs and cells -/
def lets : Rw → String
  | .put .. => "cw"
  | .copy .. => "cc"
  | .add .. => "ccc"
  | .less .. => "ccc"
  | .times .. => "ccw"
  | .jump .. => "r"
  | .below .. => "ccr"
section
variable {s : Sto}
theorem tget_f (r : Rw) : opTget t_SHAPES (.str (nmOf r)) s = .ok (.str (lets r)) s := by cases r <;> kernel_rfl
theorem tin_f (r : Rw) : opTin true t_SHAPES (.str (nmOf r)) s = .ok (.bl false) s := by cases r <;> kernel_rfl
theorem tget_stop : opTget t_SHAPES (.str "stop") s = .ok (.str "") s := by kernel_rfl
theorem tin_stop : opTin true t_SHAPES (.str "stop") s = .ok (.bl false) s := by kernel_rfl
theorem len_cw : opLen (.str "cw") s = .ok (.int 2) s := by kernel_rfl
theorem len_cc : opLen (.str "cc") s = .ok (.int 2) s := by kernel_rfl
theorem len_ccc : opLen (.str "ccc") s = .ok (.int 3) s := by kernel_rfl
theorem len_ccw : opLen (.str "ccw") s = .ok (.int 3) s := by kernel_rfl
theorem len_r : opLen (.str "r") s = .ok (.int 1) s := by kernel_rfl
theorem len_ccr : opLen (.str "ccr") s = .ok (.int 3) s := by kernel_rfl
theorem len_e : opLen (.str "") s = .ok (.int 0) s := by kernel_rfl
theorem zp_cw (a : List D) : zpD [.tup a, .str "cw"] s = some (zip2D a [.str "c", .str "w"], none) := by kernel_rfl
theorem zp_cc (a : List D) : zpD [.tup a, .str "cc"] s = some (zip2D a [.str "c", .str "c"], none) := by kernel_rfl
theorem zp_ccc (a : List D) : zpD [.tup a, .str "ccc"] s = some (zip2D a [.str "c", .str "c", .str "c"], none) := by kernel_rfl
theorem zp_ccw (a : List D) : zpD [.tup a, .str "ccw"] s = some (zip2D a [.str "c", .str "c", .str "w"], none) := by kernel_rfl
theorem zp_r (a : List D) : zpD [.tup a, .str "r"] s = some (zip2D a [.str "r"], none) := by kernel_rfl
theorem zp_ccr (a : List D) : zpD [.tup a, .str "ccr"] s = some (zip2D a [.str "c", .str "c", .str "r"], none) := by kernel_rfl
theorem zp_e (a : List D) : zpD [.tup a, .str ""] s = some (zip2D a [], none) := by kernel_rfl
theorem cut1 (d : D) (r : List D) : cutD (d :: r) (some 1) none = r := by
  have := cut_from (d :: r) 1 (by simp)
  simpa using this
end
section
variable {s : Sto}
theorem al1 : opBls (fun bs => .bl (bs.all id)) [.lst [.bl true]] s = .ok (.bl true) s := rfl
theorem al2 : opBls (fun bs => .bl (bs.all id)) [.lst [.bl true, .bl true]] s = .ok (.bl true) s := rfl
theorem al3 : opBls (fun bs => .bl (bs.all id)) [.lst [.bl true, .bl true, .bl true]] s = .ok (.bl true) s := rfl
theorem al0 : opBls (fun bs => .bl (bs.all id)) [.lst []] s = .ok (.bl true) s := rfl
end
theorem opd_c (n : Nat) (s : Sto) (x : Nat) (W : D) (i many : Int) (h : x < 128) : Fx (n + 3) 14 [.int x, .str "c", W, .int i, .int many] s = .ok (.bl true) s := by
  rw [c14]
  simp [runB, m_is_operand, between_f n s x 0 127 (by omega) (by omega)]
theorem opd_w (n : Nat) (s : Sto) (x T : Int) (i many : Int) (h : -T ≤ x ∧ x < T) : Fx (n + 3) 14 [.int x, .str "w", .tup [.int (-T), .int (T - 1)], .int i, .int many] s = .ok (.bl true) s := by
  rw [c14]
  simp [runB, m_is_operand, between_f n s x (-T) (T - 1) (by omega) (by omega)]
theorem opd_r (n : Nat) (s : Sto) (x : Nat) (W : D) (i many : Nat) (h : i < x ∧ x < many) : Fx (n + 3) 14 [.int x, .str "r", W, .int i, .int many] s = .ok (.bl true) s := by
  rw [c14]
  simp [runB, m_is_operand, between_f n s x (i + 1) (many - 1) (by omega) (by omega)]
abbrev wdd (T : Int) : D := .tup [.int (-T), .int (T - 1)]
theorem row_f (n : Nat) (s : Sto) (T : Int) (m i many : Nat) (r : Rw) (h : okR T m i many r) (hm : m ≤ 128) : Fx (n + 4) 15 [rwd r, wdd T, .int i, .int many] s = .ok (.bl true) s := by
  rw [c15]
  have t1 := tget_f (s := s) r
  have t2 := tin_f (s := s) r
  cases r with
  | put a x =>
    have q1 := fun W => opd_c n s a W i many (by have := h.1; omega)
    have q2 := opd_w n s x T i many h.2
    simp [nmOf, lets] at t1 t2
    simp [runB, m_is_program_row, rwd, t1, t2, Ty.sub, len_cw, cut1, zp_cw, lcL, gstB, q1, q2, al2]
  | copy a b =>
    have q1 := fun W => opd_c n s a W i many (by have := h.1; omega)
    have q2 := fun W => opd_c n s b W i many (by have := h.2; omega)
    simp [nmOf, lets] at t1 t2
    simp [runB, m_is_program_row, rwd, t1, t2, Ty.sub, len_cc, cut1, zp_cc, lcL, gstB, q1, q2, al2]
  | add a b c =>
    have q1 := fun W => opd_c n s a W i many (by have := h.1; omega)
    have q2 := fun W => opd_c n s b W i many (by have := h.2.1; omega)
    have q3 := fun W => opd_c n s c W i many (by have := h.2.2; omega)
    simp [nmOf, lets] at t1 t2
    simp [runB, m_is_program_row, rwd, t1, t2, Ty.sub, len_ccc, cut1, zp_ccc, lcL, gstB, q1, q2, q3, al3]
  | less a b c =>
    have q1 := fun W => opd_c n s a W i many (by have := h.1; omega)
    have q2 := fun W => opd_c n s b W i many (by have := h.2.1; omega)
    have q3 := fun W => opd_c n s c W i many (by have := h.2.2; omega)
    simp [nmOf, lets] at t1 t2
    simp [runB, m_is_program_row, rwd, t1, t2, Ty.sub, len_ccc, cut1, zp_ccc, lcL, gstB, q1, q2, q3, al3]
  | times a b x =>
    have q1 := fun W => opd_c n s a W i many (by have := h.1; omega)
    have q2 := fun W => opd_c n s b W i many (by have := h.2.1; omega)
    have q3 := opd_w n s x T i many h.2.2
    simp [nmOf, lets] at t1 t2
    simp [runB, m_is_program_row, rwd, t1, t2, Ty.sub, len_ccw, cut1, zp_ccw, lcL, gstB, q1, q2, q3, al3]
  | jump t =>
    have q1 := fun W => opd_r n s t W i many h
    simp [nmOf, lets] at t1 t2
    simp [runB, m_is_program_row, rwd, t1, t2, Ty.sub, len_r, cut1, zp_r, lcL, gstB, q1, al1]
  | below a b t =>
    have q1 := fun W => opd_c n s a W i many (by have := h.1; omega)
    have q2 := fun W => opd_c n s b W i many (by have := h.2.1; omega)
    have q3 := fun W => opd_r n s t W i many h.2.2
    simp [nmOf, lets] at t1 t2
    simp [runB, m_is_program_row, rwd, t1, t2, Ty.sub, len_ccr, cut1, zp_ccr, lcL, gstB, q1, q2, q3, al3]
theorem stop_f (n : Nat) (s : Sto) (T : Int) (i many : Nat) : Fx (n + 4) 15 [stopd, wdd T, .int i, .int many] s = .ok (.bl true) s := by
  rw [c15]
  simp [runB, m_is_program_row, tget_stop, tin_stop, Ty.sub, len_e, cut1, zp_e, lcL, gstB, al0]
/-! ### what is wrong: nothing -/
theorem lc_none {vs : List Nat} {g : MG} {mt : MT} {me : ME} {all : List D} {env : Ev} {st : Sto} : ∀ (l : List D), (∀ d ∈ l, ∃ e, g d (wipeE env vs) st = .ok e st ∧ mt e st = .ok false st) → lcL vs g mt me none all env l st [] = .ok [] st
  | [], _ => by simp [lcL, gstB]
  | d :: r, h => by
    obtain ⟨e, h1, h2⟩ := h d (.head _)
    have ih := lc_none (all := all) (me := me) r fun d' hd' => h d' (.tail _ hd')
    unfold lcL
    rw [if_pos (show gstB none all st = true from rfl), h1]
    simp [h2, ih]
theorem enum_mem {ds : List D} {d : D} (h : d ∈ enumD 0 ds) : ∃ (i : Nat) (x : D), ds[i]? = some x ∧ d = .tup [.int i, x] := by
  obtain ⟨i, hi⟩ := List.mem_iff_getElem?.mp h
  obtain ⟨x, hx, rfl⟩ := enumD_at hi
  exact ⟨i, x, hx, by simp⟩
theorem wprog_f (n : Nat) (s : Sto) (w : Int) (h1 : 4 ≤ w) (h2 : w ≤ 32) {m : Nat} {P : List Rw} (hm : m ≤ 128) (hP : P.length ≤ 100) (ok : okP (tp2 w) m P) : Fx (n + 5) 16 [.int w, cdd P] s = .ok (.lst []) s := by
  rw [c16]
  have wd := words_f (n + 3) s w h1 h2
  have l : ∀ e2 : Option D, lcL [5, 6] (gTp 2 (gCons (gNm 5) (gCons (gNm 6) gNil))) (mNotT (mTest (mCall (Fx (n + 4)) 15 [.at 0, .at 1, .at 2, .at 3] (mCons (mVar 6) (mCons (mVar 3) (mCons (mVar 5) (mCons (mVar 4) mNil))))))) (mVar 5) none (enumD 0 (P.map rwd ++ [stopd])) [some (.int w), some (cdd P), e2, some (wdd (tp2 w)), some (.int (P.length + 1 : Nat)), none, none] (enumD 0 (P.map rwd ++ [stopd])) s [] = .ok [] s := fun e2 => by
    refine lc_none _ fun d hd => ?_
    obtain ⟨i, x, hx, rfl⟩ := enum_mem hd
    refine ⟨[some (.int w), some (cdd P), e2, some (wdd (tp2 w)), some (.int (P.length + 1 : Nat)), some (.int i), some x], by simp, ?_⟩
    rcases Nat.lt_or_ge i P.length with hi | hi
    · rw [List.getElem?_append_left (by simpa using hi), List.getElem?_map, List.getElem?_eq_getElem hi] at hx
      cases hx
      have q := row_f n s (tp2 w) m i (P.length + 1) _ (ok i _ (List.getElem?_eq_getElem hi)) hm
      simp at q
      simp [q]
    · rw [List.getElem?_append_right (by simpa using hi)] at hx
      simp only [List.length_map] at hx
      have ex : x = stopd := List.mem_singleton.mp (List.mem_of_getElem? hx)
      subst ex
      have q := stop_f n s (tp2 w) i (P.length + 1)
      simp at q
      simp [q]
  have e1 : ((P.map rwd ++ [stopd]).length : Int) = ((P.length + 1 : Nat) : Int) := by simp
  have i1 : opIsi .tuple (cdd P) s = .ok (.bl true) s := rfl
  have i2 : opLen (cdd P) s = .ok (.int (P.length + 1 : Nat)) s := by rw [← e1]; rfl
  have c1' : decide ((1 : Int) ≤ ((P.length + 1 : Nat) : Int)) = true := decide_eq_true (by omega)
  have c2' : decide (((P.length + 1 : Nat) : Int) ≤ 2000) = true := decide_eq_true (by omega)
  have nn : opEq true (.lst []) (.lst []) s = .ok (.bl false) s := by kernel_rfl
  have en : enD [cdd P] s = some (enumD 0 (P.map rwd ++ [stopd]), none) := rfl
  have ct : cutD ([] : List D) none (some 1) = [] := by simp [cutD]
  unfold runB m_wrong_in_program
  rw [if_pos (show [D.int w, cdd P].length = 2 from rfl)]
  simp only [x_seq, x_ifS, x_orT, x_notT, x_test, x_op1, x_chn, x_opN, x_cons, x_nil, x_cst, List.map_cons, List.map_nil, List.cons_append, List.nil_append, List.replicate, x_varS, x_var0, R.bd_ok, i1, t_bl, Bool.not_true, Bool.false_eq_true, if_false, o_un1, i2, c1', if_true, c2', x_pass, x_asg, x_call, g_at0, g_atS, wd]
  rw [o_tup _ (by simp)]
  simp only [R.bd_ok]
  rw [x_gTp 2 _ _ rfl]
  simp only [x_gCons, x_gNil, x_gNm, R.bd_ok, List.set, x_sl, x_partN, x_partS, x_cst, x_lc, x_en, x_cons, x_nil, x_varS, x_var0, en, l]
  have il : opIx (cdd P) (.int (-1)) s = .ok stopd s := ix_last
  have es : opEq false stopd (.tup [.str "stop"]) s = .ok (.bl true) s := by kernel_rfl
  simp [ct, nn, il, es]
theorem wcells_f (n : Nat) (s : Sto) (w : Int) (h1 : 4 ≤ w) (h2 : w ≤ 32) {m : Nat} {cs : List Int} (hm : 1 ≤ m ∧ m ≤ 128) (hc : okC (tp2 w) m cs) : Fx (n + 3) 17 [.int w, .tup (ild cs)] s = .ok (.lst []) s := by
  rw [c17]
  have wd := words_f (n + 1) s w h1 h2
  have l : lcL [4, 5] (gTp 2 (gCons (gNm 4) (gCons (gNm 5) gNil))) (mNotT (mTest (mCall (Fx (n + 2)) 10 [.at 0, .at 1, .at 2] (mCons (mVar 5) (mCons (mVar 2) (mCons (mVar 3) mNil)))))) (mVar 4) none (enumD 0 (ild cs)) [some (.int w), some (.tup (ild cs)), some (.int (-(tp2 w))), some (.int (tp2 w - 1)), none, none] (enumD 0 (ild cs)) s [] = .ok [] s := by
    refine lc_none _ fun d hd => ?_
    obtain ⟨i, x, hx, rfl⟩ := enum_mem hd
    refine ⟨[some (.int w), some (.tup (ild cs)), some (.int (-(tp2 w))), some (.int (tp2 w - 1)), some (.int i), some x], by simp, ?_⟩
    have hx2 := List.mem_of_getElem? hx
    obtain ⟨y, hy, rfl⟩ := List.mem_map.mp hx2
    have q := between_f n s y (-(tp2 w)) (tp2 w - 1) (hc.2 y hy).1 (by have := (hc.2 y hy).2; omega)
    simp [q]
  have i1 : opIsi .tuple (.tup (ild cs)) s = .ok (.bl true) s := rfl
  have i2 : opLen (.tup (ild cs)) s = .ok (.int m) s := by
    show R.ok (D.int (ild cs).length) s = _
    rw [show (ild cs).length = m by simp [hc.1]]
  have c1' : decide ((1 : Int) ≤ (m : Int)) = true := decide_eq_true (by omega)
  have c2' : decide ((m : Int) ≤ 128) = true := decide_eq_true (by omega)
  have en : enD [.tup (ild cs)] s = some (enumD 0 (ild cs), none) := rfl
  have ct : cutD ([] : List D) none (some 1) = [] := by simp [cutD]
  unfold runB m_wrong_in_cells
  rw [if_pos (show [D.int w, D.tup (ild cs)].length = 2 from rfl)]
  simp only [x_seq, x_ifS, x_orT, x_notT, x_test, x_op1, x_chn, x_opN, x_cons, x_nil, x_cst, List.map_cons, List.map_nil, List.cons_append, List.nil_append, List.replicate, x_varS, x_var0, R.bd_ok, i1, t_bl, Bool.not_true, Bool.false_eq_true, if_false, o_un1, i2, c1', if_true, c2', x_pass, x_asg, x_call, g_at0, g_atS, wd]
  rw [x_gTp 2 _ _ rfl]
  simp only [x_gCons, x_gNil, x_gNm, R.bd_ok, List.set, x_sl, x_partN, x_partS, x_cst, x_lc, x_en, x_cons, x_nil, x_varS, x_var0, en, l, x_ret]
  simp [ct]
/-! ### the cells that a row names -/
def celsOf : Rw → List Nat
  | .put a _ => [a]
  | .copy a b => [a, b]
  | .add a b c => [a, b, c]
  | .less a b c => [a, b, c]
  | .times a b _ => [a, b]
  | .jump _ => []
  | .below a b _ => [a, b]
theorem cels_f (n : Nat) (s : Sto) (r : Rw) : Fx (n + 1) 21 [rwd r] s = .ok (.lst ((celsOf r).map fun a => .int (a : Nat))) s := by
  rw [c21]
  have t1 := tget_f (s := s) r
  cases r <;> simp [nmOf, lets] at t1 <;> simp [runB, m_cells_of_row, rwd, t1, cut1, zp_cw, zp_cc, zp_ccc, zp_ccw, zp_r, zp_ccr, lcL, gstB, celsOf]
theorem cels_stop (n : Nat) (s : Sto) : Fx (n + 1) 21 [stopd] s = .ok (.lst []) s := by
  rw [c21]
  simp [runB, m_cells_of_row, tget_stop, cut1, zp_e, lcL, gstB]
theorem cels_lt {T : Int} {m i many : Nat} {r : Rw} (h : okR T m i many r) : ∀ a ∈ celsOf r, a < m := by
  cases r <;> simp [okR, celsOf] at * <;> omega
end K36
set_option maxHeartbeats 400000
set_option exponentiation.threshold 1000
namespace K36
open PySem PySem.Spec L2 Rf
theorem prog_f (n : Nat) (s : Sto) (w : Int) (h1 : 4 ≤ w) (h2 : w ≤ 32) {m : Nat} {cs : List Int} {P : List Rw} (hm : 1 ≤ m ∧ m ≤ 128) (hP : P.length ≤ 100) (hc : okC (tp2 w) m cs) (ok : okP (tp2 w) m P) :
    (Fx (n + 6) 22 [.int w, cdd P, .tup (ild cs)] s).wp fun d s' => d = .tup (ild (runP (tp2 w) P 0 cs).1) ∧ Gr s s' := by
  rw [c22]
  have q1 := width_f (n + 1) s w h1 h2
  have q2 := wprog_f n s w h1 h2 hm.2 hP ok
  have q3 := wcells_f (n + 2) s w h1 h2 hm hc
  have nn : opEq true (.lst []) (.lst []) s = .ok (.bl false) s := by kernel_rfl
  have en : enD [cdd P] s = some (enumD 0 (P.map rwd ++ [stopd]), none) := rfl
  have i2 : opLen (.tup (ild cs)) s = .ok (.int m) s := by
    show R.ok (D.int (ild cs).length) s = _
    rw [show (ild cs).length = m by simp [hc.1]]
  unfold runB m_run_program
  rw [if_pos (show [D.int w, cdd P, D.tup (ild cs)].length = 3 from rfl), wp_bd']
  refine wp_seq (R.wp_mono (Q := fun f s1 => f = .nx [some (.int w), some (cdd P), some (.tup (ild cs)), none, none, none, none, none] ∧ s1 = s) ?_ ?_)
  · simp [q1]
  rintro _ s ⟨rfl, rfl⟩
  refine wp_seq (R.wp_mono (Q := fun f s1 => f = .nx [some (.int w), some (cdd P), some (.tup (ild cs)), some (.lst []), none, none, none, none] ∧ s1 = s) ?_ ?_)
  · simp [q2]
  rintro _ s ⟨rfl, rfl⟩
  refine wp_seq (R.wp_mono (Q := fun f s1 => f = .nx [some (.int w), some (cdd P), some (.tup (ild cs)), some (.lst []), none, none, none, none] ∧ s1 = s) ?_ ?_)
  · simp [nn]
  rintro _ s ⟨rfl, rfl⟩
  refine wp_seq (R.wp_mono (Q := fun f s1 => f = .nx [some (.int w), some (cdd P), some (.tup (ild cs)), some (.lst []), some (.lst []), none, none, none] ∧ s1 = s) ?_ ?_)
  · simp [q3]
  rintro _ s ⟨rfl, rfl⟩
  refine wp_seq (R.wp_mono (Q := fun f s1 => f = .nx [some (.int w), some (cdd P), some (.tup (ild cs)), some (.lst []), some (.lst []), none, none, none] ∧ s1 = s) ?_ ?_)
  · simp [nn]
  rintro _ s ⟨rfl, rfl⟩
  refine wp_seq (R.wp_mono (Q := fun f s1 => (∃ z5 z6, f = .nx [some (.int w), some (cdd P), some (.tup (ild cs)), some (.lst []), some (.lst []), z5, z6, none]) ∧ s1 = s) ?_ ?_)
  · rw [x_for]
    simp only [x_en, x_cons, x_nil, x_varS, x_var0, R.bd_ok, en]
    refine for_wp (fun l env st => st = s ∧ (∀ d ∈ l, d ∈ enumD 0 (P.map rwd ++ [stopd])) ∧ ∃ z5 z6, env = [some (.int w), some (cdd P), some (.tup (ild cs)), some (.lst []), some (.lst []), z5, z6, none]) ?_ ?_ _ _ _ ⟨rfl, fun _ h => h, none, none, rfl⟩
    · rintro d r env s ⟨rfl, hd, z5, z6, rfl⟩
      obtain ⟨i, x, hx, rfl⟩ := enum_mem (hd _ (.head _))
      have ll : ∀ (as : List Nat), (∀ a ∈ as, a < m) → lcL [7] (gNm 7) mYes (mOp2 (opCmp fun i j => decide (j ≤ i)) (mVar 7) (mOpN (un1 opLen) (mCons (mVar 2) mNil))) none (as.map fun a => D.int (a : Nat)) [some (.int w), some (cdd P), some (.tup (ild cs)), some (.lst []), some (.lst []), some (.int i), some x, none] (as.map fun a => D.int (a : Nat)) s [] = .ok ([] ++ as.map fun _ => .bl false) s := fun as ha => by
        refine lc_mapA as [] fun a h => ⟨_, rfl, ?_⟩
        have := ha a h
        have hl := hc.1
        simp [i2]
        omega
      have av : ∀ as : List Nat, opBls (fun bs => .bl (bs.any id)) [.lst (as.map fun _ => .bl false)] s = .ok (.bl false) s := fun as => by
        have := o_anyA (f := fun _ : Nat => false) (l := as) (st := s)
        rw [this]
        simp
      rcases Nat.lt_or_ge i P.length with hi | hi
      · rw [List.getElem?_append_left (by simpa using hi), List.getElem?_map, List.getElem?_eq_getElem hi] at hx
        cases hx
        have q := cels_f (n + 4) s P[i]
        have l := ll (celsOf P[i]) (cels_lt (ok i _ (List.getElem?_eq_getElem hi)))
        simp at l
        simp [q, l, av]
        exact fun d h => hd d (.tail _ h)
      · rw [List.getElem?_append_right (by simpa using hi)] at hx
        have ex : x = stopd := List.mem_singleton.mp (List.mem_of_getElem? hx)
        subst ex
        have q := cels_stop (n + 4) s
        have l := ll [] nofun
        have a0 := av []
        simp at l a0
        simp [q, l, a0]
        exact fun d h => hd d (.tail _ h)
    · rintro env s ⟨rfl, -, z5, z6, rfl⟩
      exact ⟨⟨z5, z6, rfl⟩, rfl⟩
  rintro _ s ⟨⟨z5, z6, rfl⟩, rfl⟩
  simp
  exact run_f (n + 2) s w h1 h2 (by omega) (by omega) hc ok
/-! ### what is drawn -/
theorem cells_f (n : Nat) (s : Sto) (u : Nat) (k0 w : Int) (m : Nat) (U : Urn s u k0) (hk : k0 ≤ 10 ^ 40) (h1 : 4 ≤ w) (h2 : w ≤ 32) (hm : m ≤ 100) :
    (Fx (n + 4) 5 [.ref u, .int w, .int m] s).wp fun d s' => ∃ cs, d = .tup (ild cs) ∧ okC (tp2 w) m cs ∧ Urn s' u (k0 + 1000) := by
  rw [c5]
  have hr : rgB 0 (m : Int) = true := rgB_yes _ _ (by omega) (by omega) (by omega) (by omega) (by omega)
  have hu := U.lt
  simp [runB, m_law_row_of_words, hr]
  refine for_at (fun i env st => ∃ cs z, env = [some (.ref u), some (.int w), some (.int m), some (.ref s.length), z] ∧ st[s.length]? = some (.lst (ild cs)) ∧ okC (tp2 w) i cs ∧ Urn st u (k0 + 3 * i) ∧ i ≤ m) ?_ ?_ _ _ ⟨[], _, rfl, app_at _ _, ⟨rfl, nofun⟩, by simpa using U.push _, Nat.zero_le _⟩
  · rintro i d env st hi ⟨cs, z, rfl, ha, hc, U', hm'⟩
    obtain ⟨hlt, rfl⟩ := rgI_at hi
    simp [lstD_ref ha]
    refine R.wp_mono (word_f n st u _ w U' (by omega) h1 h2) fun d s1 h => ?_
    obtain ⟨x, rfl, x0, x1, U1, K1⟩ := h
    have ha1 := K1.q.at_ (by omega) ha
    have hl : cs.length = i := hc.1
    simp [opApp_ref ha1 (y := .int x) (by simp [hl]; omega)]
    refine ⟨cs ++ [x], by simp [ild]; exact set_at ha1 _, ⟨by simp [hl], fun y hy => ?_⟩, (U1.other _ (by omega)).mono (by omega), by omega⟩
    rcases List.mem_append.mp hy with hy | hy
    · exact hc.2 y hy
    · rw [List.mem_singleton.mp hy]
      exact ⟨x0, x1⟩
  · rintro env st ⟨cs, z, rfl, ha, hc, U', hm'⟩
    rw [rgI_len] at hc U' hm'
    simp [opTupOf_ref ha]
    exact ⟨cs, rfl, by simpa using hc, U'.mono (by omega)⟩
theorem code_f (n : Nat) (s : Sto) (u : Nat) (k0 w : Int) (m k : Nat) (U : Urn s u k0) (hk : k0 ≤ 10 ^ 40) (h1 : 4 ≤ w) (h2 : w ≤ 32) (hm : 1 ≤ m ∧ m ≤ 8) (hk1 : 1 ≤ k ∧ k ≤ 60) :
    (Fx (n + 4) 4 [.ref u, .int w, .int m, .int k] s).wp fun d s' => ∃ P, d = cdd P ∧ P.length + 1 = k ∧ okP (tp2 w) m P ∧ Urn s' u (k0 + 1000) := by
  rw [c4]
  have hu := U.lt
  obtain ⟨k, rfl⟩ : ∃ j, k = j + 1 := ⟨k - 1, by omega⟩
  have hr : rgB 0 (((k + 1 : Nat) : Int) - 1) = true := rgB_yes _ _ (by omega) (by omega) (by omega) (by omega) (by omega)
  have ek : ((k + 1 : Nat) : Int) - 1 = (k : Int) := by omega
  unfold runB m_law_code
  rw [if_pos (show [D.ref u, D.int w, D.int m, D.int (k + 1 : Nat)].length = 4 from rfl), wp_bd']
  refine wp_seq (R.wp_mono (Q := fun f s1 => f = .nx [some (.ref u), some (.int w), some (.int m), some (.int (k + 1 : Nat)), some (.ref s.length), none, none, none, none, none, none, none, none] ∧ s1 = s ++ [.lst []]) ?_ ?_)
  · simp
  rintro _ _ ⟨rfl, rfl⟩
  refine wp_seq (R.wp_mono (Q := fun f st => ∃ (P : List Rw) (z5 z6 z7 z8 z9 z10 z11 z12 : Option D), f = .nx [some (.ref u), some (.int w), some (.int m), some (.int (k + 1 : Nat)), some (.ref s.length), z5, z6, z7, z8, z9, z10, z11, z12] ∧ st[s.length]? = some (.lst (P.map rwd)) ∧ P.length = k ∧ (∀ j r, P[j]? = some r → okR (tp2 w) m j (k + 1) r) ∧ Urn st u (k0 + 1000)) ?_ ?_)
  · rw [x_for]
    have e : mRg (mCons (mOp2 opSub (mVar 3) (mCst (.int 1))) mNil) [some (.ref u), some (.int w), some (.int m), some (.int (k + 1 : Nat)), some (.ref s.length), none, none, none, none, none, none, none, none] (s ++ [.lst []]) = .ok (rgI 0 k, none) (s ++ [.lst []]) := by
      simp only [x_rg, x_cons, x_nil, x_op2, x_varS, x_var0, x_cst, R.bd_ok, o_sub, ek]
      rw [ek] at hr
      rw [hr]
      rfl
    rw [e]
    simp only [R.bd_ok]
    refine for_at (fun i env st => ∃ (P : List Rw) (z5 z6 z7 z8 z9 z10 z11 z12 : Option D), env = [some (.ref u), some (.int w), some (.int m), some (.int (k + 1 : Nat)), some (.ref s.length), z5, z6, z7, z8, z9, z10, z11, z12] ∧ st[s.length]? = some (.lst (P.map rwd)) ∧ P.length = i ∧ (∀ j r, P[j]? = some r → okR (tp2 w) m j (k + 1) r) ∧ Urn st u (k0 + 10 * i) ∧ i ≤ k) ?_ ?_ _ _ ⟨[], none, none, none, none, none, none, none, none, rfl, app_at _ _, rfl, by simp, by simpa using U.push _, Nat.zero_le _⟩
    · rintro i d env st hi ⟨P, z5, z6, z7, z8, z9, z10, z11, z12, rfl, ha, hl, hP, U', hik⟩
      obtain ⟨hlt, rfl⟩ := rgI_at hi
      simp only [x_gNm, wp_ok', List.set]
      refine wp_seq ?_
      simp
      refine R.wp_mono (pull_f (n + 2) st u _ 9 U' (by omega) (by omega) (by omega)) fun d s1 h => ?_
      obtain ⟨way, rfl, w0, w1, U1, K1⟩ := h
      try simp
      refine R.wp_mono (pull_f (n + 2) s1 u _ m U1 (by omega) (by omega) (by omega)) fun d s2 h => ?_
      obtain ⟨a, rfl, a0, a1, U2, K2⟩ := h
      try simp
      refine R.wp_mono (pull_f (n + 2) s2 u _ m U2 (by omega) (by omega) (by omega)) fun d s3 h => ?_
      obtain ⟨b, rfl, b0, b1, U3, K3⟩ := h
      try simp
      refine R.wp_mono (pull_f (n + 2) s3 u _ m U3 (by omega) (by omega) (by omega)) fun d s4 h => ?_
      obtain ⟨c, rfl, c0, c1, U4, K4⟩ := h
      try simp
      refine R.wp_mono (pull_f (n + 2) s4 u _ _ U4 (by omega) (by split <;> omega) (by split <;> omega)) fun d s5 h => ?_
      obtain ⟨o, rfl, o0, o1, U5, K5⟩ := h
      have o2 : (i : Int) + 1 + o < k + 1 := by split at o1 <;> omega
      try simp
      refine R.wp_mono (word_f n s5 u _ w U5 (by omega) h1 h2) fun d s6 h => ?_
      obtain ⟨x, rfl, x0, x1, U6, K6⟩ := h
      have K := ((((K1.trans K2).trans K3).trans K4).trans K5).trans K6
      have ha1 := K.q.at_ (by omega) ha
      simp [lstD_ref ha1]
      obtain ⟨a, rfl⟩ : ∃ j : Nat, a = j := ⟨a.toNat, by omega⟩
      obtain ⟨b, rfl⟩ : ∃ j : Nat, b = j := ⟨b.toNat, by omega⟩
      obtain ⟨c, rfl⟩ : ∃ j : Nat, c = j := ⟨c.toNat, by omega⟩
      obtain ⟨t, ht⟩ : ∃ j : Nat, (i : Int) + 1 + o = j := ⟨((i : Int) + 1 + o).toNat, by omega⟩
      rw [ht]
      obtain ⟨d, hd, e1⟩ := ix_in (ds := ([.put a x, .copy a b, .add a b c, .less a b c, .times a b x, .below a b t, .below b c t, .jump t, .add a a b] : List Rw).map rwd) (s := s6) w0 (by simpa using w1)
      obtain ⟨row, hrow, rfl⟩ := List.mem_map.mp hd
      simp only [List.map_cons, List.map_nil, rwd] at e1
      rw [e1, wp_ok', opApp_ref ha1 (by simp; omega)]
      have okr : okR (tp2 w) m i (k + 1) row := by
        simp at hrow
        rcases hrow with rfl | rfl | rfl | rfl | rfl | rfl | rfl | rfl | rfl <;> simp only [okR] <;> omega
      refine ⟨P ++ [row], ?_, by simp [hl], ?_, (U6.other _ (by omega)).mono (by omega), by omega⟩
      · have := set_at ha1 (.lst (P.map rwd ++ [rwd row]))
        cases row <;> simpa [rwd] using this
      · intro j r hj
        rcases Nat.lt_or_ge j P.length with q | q
        · rw [List.getElem?_append_left q] at hj
          exact hP j r hj
        · rw [List.getElem?_append_right q] at hj
          have e0 : j - P.length = 0 := by
            rcases Nat.eq_zero_or_pos (j - P.length) with z | z
            · exact z
            · rw [List.getElem?_eq_none (by simp; omega)] at hj; cases hj
          rw [e0] at hj
          cases hj
          have : j = i := by omega
          subst this
          exact okr
    · rintro env st ⟨P, z5, z6, z7, z8, z9, z10, z11, z12, rfl, ha, hl, hP, U', hik⟩
      rw [rgI_len] at hl U'
      exact ⟨P, _, _, _, _, _, _, _, _, rfl, ha, by omega, hP, U'.mono (by omega)⟩
  rintro _ st ⟨P, z5, z6, z7, z8, z9, z10, z11, z12, rfl, ha, hl, hP, U'⟩
  subst hl
  have ad := opAdd_tup false (P.map rwd) [stopd] (s := st) (by simp; omega)
  simp [opTupOf_ref ha, ad]
  exact ⟨P, rfl, rfl, hP, U'⟩
/-! ### the law -/
theorem repr_ints {cs : List Int} {T : Int} {m : Nat} (hT : T ≤ 10 ^ 20) (hm : m ≤ 100) (hc : okC T m cs) : ∃ x, ∀ s, opRepr [.tup (ild cs)] s = .ok (.str x) s := by
  refine shn_repr (l := [100]) (shn_tup (by simp [hc.1]; omega) fun x hx => ?_) (by decide) (by decide)
  obtain ⟨i, hi, rfl⟩ := List.mem_map.mp hx
  have := hc.2 i hi
  exact shn_num (by omega) (by omega)
theorem is_f (n : Nat) (s : Sto) {d : D} (h : ∃ x, ∀ s, opRepr [d] s = .ok (.str x) s) : Fx (n + 1) 8 [d, d] s = .ok (.bl true) s := by
  obtain ⟨x, hx⟩ := h
  rw [c8]
  simp [runB, m_law_is, hx]
theorem right_f (n : Nat) (s : Sto) (u : Nat) (U : Urn s u 0) : (Fx (n + 7) 23 [.ref u] s).wp fun d _ => d = .bl true := by
  rw [c23]
  unfold runB m_law_right
  rw [if_pos (show [D.ref u].length = 1 from rfl), wp_bd']
  have hr : rgB 0 4 = true := rgB_yes _ _ (by omega) (by omega) (by omega) (by omega) (by omega)
  refine wp_seq (R.wp_mono (Q := fun f s1 => ∃ e, f = .nx e) ?_ ?_)
  · rw [x_for]
    simp only [x_rg, x_cons, x_nil, x_cst, R.bd_ok, hr, if_true]
    refine for_at (fun i env st => ∃ (z1 z2 z3 z4 z5 z6 z7 : Option D), env = [some (.ref u), z1, z2, z3, z4, z5, z6, z7] ∧ Urn st u (10000 * i) ∧ i ≤ 4) ?_ ?_ _ _ ⟨_, _, _, _, _, _, _, rfl, by simpa using U, by omega⟩
    · rintro i d env st hi ⟨z1, z2, z3, z4, z5, z6, z7, rfl, U0, hi4⟩
      obtain ⟨hlt, rfl⟩ := rgI_at (n := 4) hi
      simp only [x_gNm, wp_ok', List.set]
      refine wp_seq (R.wp_mono (Q := fun f s1 => ∃ (w : Int) (m : Nat), f = .nx [some (.ref u), some (.int i), z2, z3, some (.int w), some (.int m), z6, z7] ∧ 4 ≤ w ∧ w ≤ 32 ∧ 1 ≤ m ∧ m ≤ 8 ∧ Urn s1 u (10000 * i + 2)) ?_ ?_)
      · simp
        refine R.wp_mono (pull_f (n + 5) st u _ 29 U0 (by omega) (by omega) (by omega)) fun d s1 h => ?_
        obtain ⟨x, rfl, x0, x1, U1, K1⟩ := h
        try simp
        refine R.wp_mono (pull_f (n + 5) s1 u _ 8 U1 (by omega) (by omega) (by omega)) fun d s2 h => ?_
        obtain ⟨y, rfl, y0, y1, U2, K2⟩ := h
        obtain ⟨m, hm⟩ : ∃ j : Nat, 1 + y = j := ⟨(1 + y).toNat, by omega⟩
        try simp
        exact ⟨4 + x, m, by rw [hm]; simp, by omega, by omega, by omega, by omega, U2.mono (by omega)⟩
      rintro _ s1 ⟨w, m, rfl, w1, w2, m1, m2, U1⟩
      refine wp_seq (R.wp_mono (Q := fun f s2 => ∃ P, f = .nx [some (.ref u), some (.int i), some (cdd P), z3, some (.int w), some (.int m), z6, z7] ∧ P.length ≤ 60 ∧ okP (tp2 w) m P ∧ Urn s2 u (10000 * i + 2000)) ?_ ?_)
      · simp
        refine R.wp_mono (one_f (n + 4) s1 u _ _ U1 (by omega) (by simp) (by simp)) fun d s2 h => ?_
        obtain ⟨hd, U2, K2⟩ := h
        obtain ⟨t, rfl, t0, t1⟩ : ∃ t : Int, d = .int t ∧ 0 < t ∧ t ≤ 60 := by
          simp at hd
          rcases hd with rfl | rfl | rfl <;> exact ⟨_, rfl, by omega, by omega⟩
        try simp
        refine R.wp_mono (pull_f (n + 5) s2 u _ t U2 (by omega) (by omega) (by omega)) fun d s3 h => ?_
        obtain ⟨y, rfl, y0, y1, U3, K3⟩ := h
        obtain ⟨k, hk⟩ : ∃ j : Nat, 1 + y = j := ⟨(1 + y).toNat, by omega⟩
        simp
        rw [hk]
        refine R.wp_mono (code_f (n + 2) s3 u _ w m k U3 (by omega) w1 w2 ⟨m1, m2⟩ (by omega)) fun d s4 h => ?_
        obtain ⟨P, rfl, hl, ok, U4⟩ := h
        exact ⟨P, rfl, by omega, ok, U4.mono (by omega)⟩
      rintro _ s2 ⟨P, rfl, hP, ok, U2⟩
      refine wp_seq (R.wp_mono (Q := fun f s3 => ∃ cs, f = .nx [some (.ref u), some (.int i), some (cdd P), some (.tup (ild cs)), some (.int w), some (.int m), z6, z7] ∧ okC (tp2 w) m cs ∧ Urn s3 u (10000 * i + 4000)) ?_ ?_)
      · simp
        refine R.wp_mono (cells_f (n + 2) s2 u _ w m U2 (by omega) w1 w2 (by omega)) fun d s3 h => ?_
        obtain ⟨cs, rfl, hc, U3⟩ := h
        exact ⟨cs, rfl, hc, U3.mono (by omega)⟩
      rintro _ s3 ⟨cs, rfl, hc, U3⟩
      refine wp_seq (R.wp_mono (Q := fun f s4 => f = .nx [some (.ref u), some (.int i), some (cdd P), some (.tup (ild cs)), some (.int w), some (.int m), some (.tup (ild (runP (tp2 w) P 0 cs).1)), some (.int ((runP (tp2 w) P 0 cs).2 + 1 : Nat))] ∧ Urn s4 u (10000 * i + 4000)) ?_ ?_)
      · simp only [x_asg, x_call, x_cons, x_nil, x_varS, x_var0, R.bd_ok, List.map_cons, List.map_nil, g_at0, g_atS, wp_bd']
        refine R.wp_mono (law_f (n + 3) s3 w w1 w2 (by omega) (by omega) hc ok) fun d s4 h => ?_
        obtain ⟨rfl, G⟩ := h
        simp
        exact G.urn U3
      rintro _ s4 ⟨rfl, U4⟩
      have hT := tp2_pos w
      have hT2 := tp2_le (w := w) (by omega)
      have rok := runP_ok hT ok P.length 0 cs (by omega) (by omega) hc
      have hrep := repr_ints hT2 (by omega) rok
      have hle := runM_le (tp2 w) P (P.length - 0) 0 cs
      have hlt : ¬ (((P.map rwd ++ [stopd]).length : Int) < ((runP (tp2 w) P 0 cs).2 + 1 : Nat)) := by
        show ¬ _ < (((runM (tp2 w) P (P.length - 0) 0 cs).2 + 1 : Nat) : Int)
        simp
        omega
      have is := fun s => is_f (n + 5) s hrep
      have i2 : ∀ s, opLen (cdd P) s = .ok (.int (P.map rwd ++ [stopd]).length) s := fun _ => rfl
      refine wp_seq (R.wp_mono (Q := fun f s5 => f = .nx [some (.ref u), some (.int i), some (cdd P), some (.tup (ild cs)), some (.int w), some (.int m), some (.tup (ild (runP (tp2 w) P 0 cs).1)), some (.int ((runP (tp2 w) P 0 cs).2 + 1 : Nat))] ∧ Urn s5 u (10000 * i + 4000)) ?_ ?_)
      · simp only [x_ifS, x_orT, x_test, x_op2, x_varS, x_var0, R.bd_ok, x_opN, x_cons, x_nil, o_un1, i2, o_cmp, t_bl, decide_eq_false hlt, Bool.false_eq_true, if_false, x_notT, x_call, List.map_cons, List.map_nil, g_at0, g_atS, wp_bd']
        refine R.wp_mono (prog_f n s4 w w1 w2 ⟨m1, by omega⟩ (by omega) hc ok) fun d s5 h => ?_
        obtain ⟨rfl, G⟩ := h
        simp [is]
        exact G.urn U4
      rintro _ s5 ⟨rfl, U5⟩
      simp only [x_ifS, x_test, x_varS, x_var0, R.bd_ok, x_cons, x_nil, x_notT, x_call, x_callK, List.map_cons, List.map_nil, g_at0, g_atS, List.nil_append, wp_bd']
      refine R.wp_mono (prog_f n s5 w w1 w2 ⟨m1, by omega⟩ (by omega) hc ok) fun d s6 h => ?_
      obtain ⟨rfl, G⟩ := h
      simp [is]
      exact ⟨(G.urn U5).mono (by omega), by omega⟩
    · rintro env st ⟨z1, z2, z3, z4, z5, z6, z7, rfl, U0, hi4⟩
      exact ⟨_, rfl⟩
  rintro _ s1 ⟨e, rfl⟩
  simp
abbrev most : Nat := 63
abbrev lv : Nat := 12
theorem holds (ns : List Int) (h : ns.length ≤ most) : ∃ s, Fx lv 25 [.ro (ns.map .int)] [] = .ok (.bl true) s := by
  refine wp_true ?_
  show (Fx (11 + 1) 25 _ _).wp _
  rw [c25]
  exact law_ok (F := Fx 11) (idR := 23) (idU := 24) (lo := 1) (hi := 3) ns (by decide) (by decide) (fun s t ht => urn_f 10 ns s t ht) fun s u U => right_f 4 s u U
end K36
set_option maxHeartbeats 0
namespace K36
open PySem PySem.Spec L2 Rf
open PyProof.Rows hiding St
def fn : List He.DefD := [p0.d, p1.d, p2.d, p3.d, p4.d, p5.d, p6.d, p7.d, p8.d, p9.d, p10.d, p11.d, p12.d, p13.d, p14.d, p15.d, p16.d, p17.d, p18.d, p19.d, p20.d, p21.d, p22.d, p23.d, p24.d, p25.d]
def fa : List He.Fa := [.glo "_law_top", .glo "_law_pull", .glo "_law_one", .glo "_law_word", .glo "_law_code", .glo "_law_row_of_words", .glo "_law_wrap", .glo "_law_machine", .glo "_law_is", .glo "is_whole", .glo "is_between", .glo "check_number", .glo "check_width", .glo "words_of", .glo "is_operand", .glo "is_program_row", .glo "wrong_in_program", .glo "wrong_in_cells", .glo "wrapped_by", .glo "reckoned", .glo "run_program_by", .glo "cells_of_row", .glo "run_program", .glo "_law_right", .glo "_law_urn", .glo "law", .free "len", .free "isinstance", .free "all", .free "any", .free "abs", .free "max", .free "min", .free "divmod", .free "repr", .free "sum", .free "sorted", .free "int", .free "bool", .free "str", .free "tuple", .free "list", .free "dict", .free "set", .free "range", .free "zip", .free "enumerate"]
abbrev RR : PySem.W.OpenRow := PySem.W.OpenLaw.row PySem.Challenge.rw_safehelms_k36_whole_runs_on_the_machine
abbrev hk : PySem.W.Hook := hookX 4 fa fn C.G
def ob (s : PySem.W.SharedT) : ObX := obsX 4 fa fn C.G (HandSHeadRun.getT s)
theorem ob_eq (s : PySem.W.SharedT) : ob s = hk.obs s.abs := obsX_eq (HandSHeadRun.getT_eq s)
def loose0 : List PySem.Str := ["HelmError", "InvalidNumber", "InvalidProgram", "InvalidCells", "is_whole", "is_between", "check_number", "words_of", "LEAST_WIDTH", "MOST_WIDTH", "MOST_ROWS", "MOST_CELLS", "SHAPES", "is_operand", "is_program_row", "wrong_in_program", "cells_of_row", "wrong_in_cells", "wrapped_by", "reckoned"]
def loose1 : List PySem.Str := ["run_program_by", "check_width", "run_program", "_law_urn", "_law_pull", "_law_one", "_law_is", "_law_top", "_law_word", "_law_wrap", "_law_machine", "_law_code", "_law_row_of_words", "_law_right"]
def loose : List PySem.Str := loose0 ++ loose1
theorem runF (w : World) : HandSHeadRun.RunEq RR (PySem.W.view RR.prog [41]) hk ob 3000 loose (w.withFollow "special-get-raises" false) := by
  intro os
  kernel_rfl
theorem runT (w : World) : HandSHeadRun.RunEq RR (PySem.W.view RR.prog [41]) hk ob 3000 loose (w.withFollow "special-get-raises" true) := by
  intro os
  kernel_rfl
theorem run (w : World) : HandSHeadRun.RunEq RR (PySem.W.view RR.prog [41]) hk ob 3000 loose w := PySem.W.byRow2 "special-get-raises" (P := fun w => HandSHeadRun.RunEq RR (PySem.W.view RR.prog [41]) hk ob 3000 loose w) runF runT w
theorem sc0 : FnScope p0.N p0.ps p0.d.scope := ⟨by kernel_rfl, by kernel_rfl, by kernel_rfl, by decide +kernel, by decide +kernel, by decide +kernel, by decide +kernel⟩
theorem sc1 : FnScope p1.N p1.ps p1.d.scope := ⟨by kernel_rfl, by kernel_rfl, by kernel_rfl, by decide +kernel, by decide +kernel, by decide +kernel, by decide +kernel⟩
theorem sc2 : FnScope p2.N p2.ps p2.d.scope := ⟨by kernel_rfl, by kernel_rfl, by kernel_rfl, by decide +kernel, by decide +kernel, by decide +kernel, by decide +kernel⟩
theorem sc3 : FnScope p3.N p3.ps p3.d.scope := ⟨by kernel_rfl, by kernel_rfl, by kernel_rfl, by decide +kernel, by decide +kernel, by decide +kernel, by decide +kernel⟩
theorem sc4 : FnScope p4.N p4.ps p4.d.scope := ⟨by kernel_rfl, by kernel_rfl, by kernel_rfl, by decide +kernel, by decide +kernel, by decide +kernel, by decide +kernel⟩
theorem sc5 : FnScope p5.N p5.ps p5.d.scope := ⟨by kernel_rfl, by kernel_rfl, by kernel_rfl, by decide +kernel, by decide +kernel, by decide +kernel, by decide +kernel⟩
theorem sc6 : FnScope p6.N p6.ps p6.d.scope := ⟨by kernel_rfl, by kernel_rfl, by kernel_rfl, by decide +kernel, by decide +kernel, by decide +kernel, by decide +kernel⟩
theorem sc7 : FnScope p7.N p7.ps p7.d.scope := ⟨by kernel_rfl, by kernel_rfl, by kernel_rfl, by decide +kernel, by decide +kernel, by decide +kernel, by decide +kernel⟩
theorem sc8 : FnScope p8.N p8.ps p8.d.scope := ⟨by kernel_rfl, by kernel_rfl, by kernel_rfl, by decide +kernel, by decide +kernel, by decide +kernel, by decide +kernel⟩
theorem sc9 : FnScope p9.N p9.ps p9.d.scope := ⟨by kernel_rfl, by kernel_rfl, by kernel_rfl, by decide +kernel, by decide +kernel, by decide +kernel, by decide +kernel⟩
theorem sc10 : FnScope p10.N p10.ps p10.d.scope := ⟨by kernel_rfl, by kernel_rfl, by kernel_rfl, by decide +kernel, by decide +kernel, by decide +kernel, by decide +kernel⟩
theorem sc11 : FnScope p11.N p11.ps p11.d.scope := ⟨by kernel_rfl, by kernel_rfl, by kernel_rfl, by decide +kernel, by decide +kernel, by decide +kernel, by decide +kernel⟩
theorem sc12 : FnScope p12.N p12.ps p12.d.scope := ⟨by kernel_rfl, by kernel_rfl, by kernel_rfl, by decide +kernel, by decide +kernel, by decide +kernel, by decide +kernel⟩
theorem sc13 : FnScope p13.N p13.ps p13.d.scope := ⟨by kernel_rfl, by kernel_rfl, by kernel_rfl, by decide +kernel, by decide +kernel, by decide +kernel, by decide +kernel⟩
theorem sc14 : FnScope p14.N p14.ps p14.d.scope := ⟨by kernel_rfl, by kernel_rfl, by kernel_rfl, by decide +kernel, by decide +kernel, by decide +kernel, by decide +kernel⟩
theorem sc15 : FnScope p15.N p15.ps p15.d.scope := ⟨by kernel_rfl, by kernel_rfl, by kernel_rfl, by decide +kernel, by decide +kernel, by decide +kernel, by decide +kernel⟩
theorem sc16 : FnScope p16.N p16.ps p16.d.scope := ⟨by kernel_rfl, by kernel_rfl, by kernel_rfl, by decide +kernel, by decide +kernel, by decide +kernel, by decide +kernel⟩
theorem sc17 : FnScope p17.N p17.ps p17.d.scope := ⟨by kernel_rfl, by kernel_rfl, by kernel_rfl, by decide +kernel, by decide +kernel, by decide +kernel, by decide +kernel⟩
theorem sc18 : FnScope p18.N p18.ps p18.d.scope := ⟨by kernel_rfl, by kernel_rfl, by kernel_rfl, by decide +kernel, by decide +kernel, by decide +kernel, by decide +kernel⟩
theorem sc19 : FnScope p19.N p19.ps p19.d.scope := ⟨by kernel_rfl, by kernel_rfl, by kernel_rfl, by decide +kernel, by decide +kernel, by decide +kernel, by decide +kernel⟩
theorem sc20 : FnScope p20.N p20.ps p20.d.scope := ⟨by kernel_rfl, by kernel_rfl, by kernel_rfl, by decide +kernel, by decide +kernel, by decide +kernel, by decide +kernel⟩
theorem sc21 : FnScope p21.N p21.ps p21.d.scope := ⟨by kernel_rfl, by kernel_rfl, by kernel_rfl, by decide +kernel, by decide +kernel, by decide +kernel, by decide +kernel⟩
theorem sc22 : FnScope p22.N p22.ps p22.d.scope := ⟨by kernel_rfl, by kernel_rfl, by kernel_rfl, by decide +kernel, by decide +kernel, by decide +kernel, by decide +kernel⟩
theorem sc23 : FnScope p23.N p23.ps p23.d.scope := ⟨by kernel_rfl, by kernel_rfl, by kernel_rfl, by decide +kernel, by decide +kernel, by decide +kernel, by decide +kernel⟩
theorem sc24 : FnScope p24.N p24.ps p24.d.scope := ⟨by kernel_rfl, by kernel_rfl, by kernel_rfl, by decide +kernel, by decide +kernel, by decide +kernel, by decide +kernel⟩
theorem sc25 : FnScope p25.N p25.ps p25.d.scope := ⟨by kernel_rfl, by kernel_rfl, by kernel_rfl, by decide +kernel, by decide +kernel, by decide +kernel, by decide +kernel⟩
theorem q0 : BindQ p1 f0 := bindQ0 rfl fun kV doc pm an cdv ct us ws h1 h2 => match us, ws, h1, h2 with
  | [u0, u1], [], _, _ => ⟨[u0, u1], by kernel_rfl, .cons rfl (.cons rfl .nil)⟩
theorem q1 : BindQ p0 f1 := bindQ0 rfl fun kV doc pm an cdv ct us ws h1 h2 => match us, ws, h1, h2 with
  | [u0], [], _, _ => ⟨[u0], by kernel_rfl, .cons rfl .nil⟩
theorem q2 : BindQ p2 f2 := bindQ0 rfl fun kV doc pm an cdv ct us ws h1 h2 => match us, ws, h1, h2 with
  | [u0, u1], [], _, _ => ⟨[u0, u1], by kernel_rfl, .cons rfl (.cons rfl .nil)⟩
theorem q3 : BindQ p3 f3 := bindQ0 rfl fun kV doc pm an cdv ct us ws h1 h2 => match us, ws, h1, h2 with
  | [u0, u1], [], _, _ => ⟨[u0, u1], by kernel_rfl, .cons rfl (.cons rfl .nil)⟩
theorem q4 : BindQ p6 f4 := bindQ0 rfl fun kV doc pm an cdv ct us ws h1 h2 => match us, ws, h1, h2 with
  | [u0, u1], [], _, _ => ⟨[u0, u1], by kernel_rfl, .cons rfl (.cons rfl .nil)⟩
theorem q5 : BindQ p9 f5 := bindQ0 rfl fun kV doc pm an cdv ct us ws h1 h2 => match us, ws, h1, h2 with
  | [u0], [], _, _ => ⟨[u0], by kernel_rfl, .cons rfl .nil⟩
theorem q6 : BindQ p10 f6 := bindQ0 rfl fun kV doc pm an cdv ct us ws h1 h2 => match us, ws, h1, h2 with
  | [u0, u1, u2], [], _, _ => ⟨[u0, u1, u2], by kernel_rfl, .cons rfl (.cons rfl (.cons rfl .nil))⟩
theorem q7 : BindQ p11 f7 := bindQ0 rfl fun kV doc pm an cdv ct us ws h1 h2 => match us, ws, h1, h2 with
  | [u0, u1, u2], [], _, _ => ⟨[u0, u1, u2], by kernel_rfl, .cons rfl (.cons rfl (.cons rfl .nil))⟩
theorem q8 : BindQ p14 f8 := bindQ0 rfl fun kV doc pm an cdv ct us ws h1 h2 => match us, ws, h1, h2 with
  | [u0, u1, u2, u3, u4], [], _, _ => ⟨[u0, u1, u2, u3, u4], by kernel_rfl, .cons rfl (.cons rfl (.cons rfl (.cons rfl (.cons rfl .nil))))⟩
theorem q9 : BindQ p13 f9 := bindQ0 rfl fun kV doc pm an cdv ct us ws h1 h2 => match us, ws, h1, h2 with
  | [u0], [], _, _ => ⟨[u0], by kernel_rfl, .cons rfl .nil⟩
theorem q10 : BindQ p15 f10 := bindQ0 rfl fun kV doc pm an cdv ct us ws h1 h2 => match us, ws, h1, h2 with
  | [u0, u1, u2, u3], [], _, _ => ⟨[u0, u1, u2, u3], by kernel_rfl, .cons rfl (.cons rfl (.cons rfl (.cons rfl .nil)))⟩
theorem q11 : BindQ p18 f11 := bindQ0 rfl fun kV doc pm an cdv ct us ws h1 h2 => match us, ws, h1, h2 with
  | [u0, u1], [], _, _ => ⟨[u0, u1], by kernel_rfl, .cons rfl (.cons rfl .nil)⟩
theorem q12 : BindQ p19 f12 := bindQ0 rfl fun kV doc pm an cdv ct us ws h1 h2 => match us, ws, h1, h2 with
  | [u0, u1, u2], [], _, _ => ⟨[u0, u1, u2], by kernel_rfl, .cons rfl (.cons rfl (.cons rfl .nil))⟩
theorem q13 : BindQ p12 f13 := bindQ0 rfl fun kV doc pm an cdv ct us ws h1 h2 => match us, ws, h1, h2 with
  | [u0], [], _, _ => ⟨[u0], by kernel_rfl, .cons rfl .nil⟩
theorem q14 : BindQ p16 f14 := bindQ0 rfl fun kV doc pm an cdv ct us ws h1 h2 => match us, ws, h1, h2 with
  | [u0, u1], [], _, _ => ⟨[u0, u1], by kernel_rfl, .cons rfl (.cons rfl .nil)⟩
theorem q15 : BindQ p17 f15 := bindQ0 rfl fun kV doc pm an cdv ct us ws h1 h2 => match us, ws, h1, h2 with
  | [u0, u1], [], _, _ => ⟨[u0, u1], by kernel_rfl, .cons rfl (.cons rfl .nil)⟩
theorem q16 : BindQ p21 f16 := bindQ0 rfl fun kV doc pm an cdv ct us ws h1 h2 => match us, ws, h1, h2 with
  | [u0], [], _, _ => ⟨[u0], by kernel_rfl, .cons rfl .nil⟩
theorem q17 : BindQ p20 f17 := bindQ0 rfl fun kV doc pm an cdv ct us ws h1 h2 => match us, ws, h1, h2 with
  | [u0, u1, u2], [], _, _ => ⟨[u0, u1, u2], by kernel_rfl, .cons rfl (.cons rfl (.cons rfl .nil))⟩
theorem q18 : BindQ p4 f18 := bindQ0 rfl fun kV doc pm an cdv ct us ws h1 h2 => match us, ws, h1, h2 with
  | [u0, u1, u2, u3], [], _, _ => ⟨[u0, u1, u2, u3], by kernel_rfl, .cons rfl (.cons rfl (.cons rfl (.cons rfl .nil)))⟩
theorem q19 : BindQ p5 f19 := bindQ0 rfl fun kV doc pm an cdv ct us ws h1 h2 => match us, ws, h1, h2 with
  | [u0, u1, u2], [], _, _ => ⟨[u0, u1, u2], by kernel_rfl, .cons rfl (.cons rfl (.cons rfl .nil))⟩
theorem q20 : BindQ p7 f20 := bindQ0 rfl fun kV doc pm an cdv ct us ws h1 h2 => match us, ws, h1, h2 with
  | [u0, u1, u2], [], _, _ => ⟨[u0, u1, u2], by kernel_rfl, .cons rfl (.cons rfl (.cons rfl .nil))⟩
theorem q21 : BindQ p8 f21 := bindQ0 rfl fun kV doc pm an cdv ct us ws h1 h2 => match us, ws, h1, h2 with
  | [u0, u1], [], _, _ => ⟨[u0, u1], by kernel_rfl, .cons rfl (.cons rfl .nil)⟩
theorem q22 : BindQ p22 f22 := bindQ0 rfl fun kV doc pm an cdv ct us ws h1 h2 => match us, ws, h1, h2 with
  | [u0, u1, u2], [], _, _ => ⟨[u0, u1, u2], by kernel_rfl, .cons rfl (.cons rfl (.cons rfl .nil))⟩
theorem q23 : BindQ p22 f23 := bindQ0 rfl fun kV doc pm an cdv ct us ws h1 h2 => match us, ws, h1, h2 with
  | [], [w0, w1, w2], _, _ => ⟨[w2, w1, w0], by kernel_rfl, .cons rfl (.cons rfl (.cons rfl .nil))⟩
theorem q24 : BindQ p23 f24 := bindQ0 rfl fun kV doc pm an cdv ct us ws h1 h2 => match us, ws, h1, h2 with
  | [u0], [], _, _ => ⟨[u0], by kernel_rfl, .cons rfl .nil⟩
theorem q25 : BindQ p24 f25 := bindQ0 rfl fun kV doc pm an cdv ct us ws h1 h2 => match us, ws, h1, h2 with
  | [u0, u1], [], _, _ => ⟨[u0, u1], by kernel_rfl, .cons rfl (.cons rfl .nil)⟩
theorem tp {K : PySem.W.Frag} {w : World} {h : Heap} {mg : Str → Option Value} (X : K.In h) (G0 : h.Ns mainGlobals mg) (c : He.SaysD fa fn K) (cx : exB C.G K = true) (tx : ∀ t ∈ C.G.ts, tabO K t.1 = some (He.keysIn w.params (t.2.map (·.1)))) : Tp K w mg pds C.G where
  df := fun id p h => by
    have e : fn[id]? = some p.d := by
      have e2 : fn = pds.map (·.d) := rfl
      rw [e2, List.getElem?_map, h]
      rfl
    exact c.def_ id e
  sc := List.forall_mem_cons.mpr ⟨sc0, List.forall_mem_cons.mpr ⟨sc1, List.forall_mem_cons.mpr ⟨sc2, List.forall_mem_cons.mpr ⟨sc3, List.forall_mem_cons.mpr ⟨sc4, List.forall_mem_cons.mpr ⟨sc5, List.forall_mem_cons.mpr ⟨sc6, List.forall_mem_cons.mpr ⟨sc7, List.forall_mem_cons.mpr ⟨sc8, List.forall_mem_cons.mpr ⟨sc9, List.forall_mem_cons.mpr ⟨sc10, List.forall_mem_cons.mpr ⟨sc11, List.forall_mem_cons.mpr ⟨sc12, List.forall_mem_cons.mpr ⟨sc13, List.forall_mem_cons.mpr ⟨sc14, List.forall_mem_cons.mpr ⟨sc15, List.forall_mem_cons.mpr ⟨sc16, List.forall_mem_cons.mpr ⟨sc17, List.forall_mem_cons.mpr ⟨sc18, List.forall_mem_cons.mpr ⟨sc19, List.forall_mem_cons.mpr ⟨sc20, List.forall_mem_cons.mpr ⟨sc21, List.forall_mem_cons.mpr ⟨sc22, List.forall_mem_cons.mpr ⟨sc23, List.forall_mem_cons.mpr ⟨sc24, List.forall_mem_cons.mpr ⟨sc25, (fun _ h => nomatch h)⟩⟩⟩⟩⟩⟩⟩⟩⟩⟩⟩⟩⟩⟩⟩⟩⟩⟩⟩⟩⟩⟩⟩⟩⟩⟩
  fs := List.forall_mem_cons.mpr ⟨⟨p1, rfl, He.glo_ok X G0 (c.fact 1 (f := .glo "_law_pull") rfl), rfl, q0⟩, List.forall_mem_cons.mpr ⟨⟨p0, rfl, He.glo_ok X G0 (c.fact 0 (f := .glo "_law_top") rfl), rfl, q1⟩, List.forall_mem_cons.mpr ⟨⟨p2, rfl, He.glo_ok X G0 (c.fact 2 (f := .glo "_law_one") rfl), rfl, q2⟩, List.forall_mem_cons.mpr ⟨⟨p3, rfl, He.glo_ok X G0 (c.fact 3 (f := .glo "_law_word") rfl), rfl, q3⟩, List.forall_mem_cons.mpr ⟨⟨p6, rfl, He.glo_ok X G0 (c.fact 6 (f := .glo "_law_wrap") rfl), rfl, q4⟩, List.forall_mem_cons.mpr ⟨⟨p9, rfl, He.glo_ok X G0 (c.fact 9 (f := .glo "is_whole") rfl), rfl, q5⟩, List.forall_mem_cons.mpr ⟨⟨p10, rfl, He.glo_ok X G0 (c.fact 10 (f := .glo "is_between") rfl), rfl, q6⟩, List.forall_mem_cons.mpr ⟨⟨p11, rfl, He.glo_ok X G0 (c.fact 11 (f := .glo "check_number") rfl), rfl, q7⟩, List.forall_mem_cons.mpr ⟨⟨p14, rfl, He.glo_ok X G0 (c.fact 14 (f := .glo "is_operand") rfl), rfl, q8⟩, List.forall_mem_cons.mpr ⟨⟨p13, rfl, He.glo_ok X G0 (c.fact 13 (f := .glo "words_of") rfl), rfl, q9⟩, List.forall_mem_cons.mpr ⟨⟨p15, rfl, He.glo_ok X G0 (c.fact 15 (f := .glo "is_program_row") rfl), rfl, q10⟩, List.forall_mem_cons.mpr ⟨⟨p18, rfl, He.glo_ok X G0 (c.fact 18 (f := .glo "wrapped_by") rfl), rfl, q11⟩, List.forall_mem_cons.mpr ⟨⟨p19, rfl, He.glo_ok X G0 (c.fact 19 (f := .glo "reckoned") rfl), rfl, q12⟩, List.forall_mem_cons.mpr ⟨⟨p12, rfl, He.glo_ok X G0 (c.fact 12 (f := .glo "check_width") rfl), rfl, q13⟩, List.forall_mem_cons.mpr ⟨⟨p16, rfl, He.glo_ok X G0 (c.fact 16 (f := .glo "wrong_in_program") rfl), rfl, q14⟩, List.forall_mem_cons.mpr ⟨⟨p17, rfl, He.glo_ok X G0 (c.fact 17 (f := .glo "wrong_in_cells") rfl), rfl, q15⟩, List.forall_mem_cons.mpr ⟨⟨p21, rfl, He.glo_ok X G0 (c.fact 21 (f := .glo "cells_of_row") rfl), rfl, q16⟩, List.forall_mem_cons.mpr ⟨⟨p20, rfl, He.glo_ok X G0 (c.fact 20 (f := .glo "run_program_by") rfl), rfl, q17⟩, List.forall_mem_cons.mpr ⟨⟨p4, rfl, He.glo_ok X G0 (c.fact 4 (f := .glo "_law_code") rfl), rfl, q18⟩, List.forall_mem_cons.mpr ⟨⟨p5, rfl, He.glo_ok X G0 (c.fact 5 (f := .glo "_law_row_of_words") rfl), rfl, q19⟩, List.forall_mem_cons.mpr ⟨⟨p7, rfl, He.glo_ok X G0 (c.fact 7 (f := .glo "_law_machine") rfl), rfl, q20⟩, List.forall_mem_cons.mpr ⟨⟨p8, rfl, He.glo_ok X G0 (c.fact 8 (f := .glo "_law_is") rfl), rfl, q21⟩, List.forall_mem_cons.mpr ⟨⟨p22, rfl, He.glo_ok X G0 (c.fact 22 (f := .glo "run_program") rfl), rfl, q22⟩, List.forall_mem_cons.mpr ⟨⟨p22, rfl, He.glo_ok X G0 (c.fact 22 (f := .glo "run_program") rfl), rfl, q23⟩, List.forall_mem_cons.mpr ⟨⟨p23, rfl, He.glo_ok X G0 (c.fact 23 (f := .glo "_law_right") rfl), rfl, q24⟩, List.forall_mem_cons.mpr ⟨⟨p24, rfl, He.glo_ok X G0 (c.fact 24 (f := .glo "_law_urn") rfl), rfl, q25⟩, (fun _ h => nomatch h)⟩⟩⟩⟩⟩⟩⟩⟩⟩⟩⟩⟩⟩⟩⟩⟩⟩⟩⟩⟩⟩⟩⟩⟩⟩⟩
  bl := List.forall_mem_cons.mpr ⟨He.free_ok X G0 (c.fact 26 (f := .free "len") rfl), List.forall_mem_cons.mpr ⟨He.free_ok X G0 (c.fact 27 (f := .free "isinstance") rfl), List.forall_mem_cons.mpr ⟨He.free_ok X G0 (c.fact 28 (f := .free "all") rfl), List.forall_mem_cons.mpr ⟨He.free_ok X G0 (c.fact 29 (f := .free "any") rfl), List.forall_mem_cons.mpr ⟨He.free_ok X G0 (c.fact 30 (f := .free "abs") rfl), List.forall_mem_cons.mpr ⟨He.free_ok X G0 (c.fact 31 (f := .free "max") rfl), List.forall_mem_cons.mpr ⟨He.free_ok X G0 (c.fact 32 (f := .free "min") rfl), List.forall_mem_cons.mpr ⟨He.free_ok X G0 (c.fact 33 (f := .free "divmod") rfl), List.forall_mem_cons.mpr ⟨He.free_ok X G0 (c.fact 34 (f := .free "repr") rfl), List.forall_mem_cons.mpr ⟨He.free_ok X G0 (c.fact 35 (f := .free "sum") rfl), List.forall_mem_cons.mpr ⟨He.free_ok X G0 (c.fact 36 (f := .free "sorted") rfl), List.forall_mem_cons.mpr ⟨He.free_ok X G0 (c.fact 37 (f := .free "int") rfl), List.forall_mem_cons.mpr ⟨He.free_ok X G0 (c.fact 38 (f := .free "bool") rfl), List.forall_mem_cons.mpr ⟨He.free_ok X G0 (c.fact 39 (f := .free "str") rfl), List.forall_mem_cons.mpr ⟨He.free_ok X G0 (c.fact 40 (f := .free "tuple") rfl), List.forall_mem_cons.mpr ⟨He.free_ok X G0 (c.fact 41 (f := .free "list") rfl), List.forall_mem_cons.mpr ⟨He.free_ok X G0 (c.fact 42 (f := .free "dict") rfl), List.forall_mem_cons.mpr ⟨He.free_ok X G0 (c.fact 43 (f := .free "set") rfl), List.forall_mem_cons.mpr ⟨He.free_ok X G0 (c.fact 44 (f := .free "range") rfl), List.forall_mem_cons.mpr ⟨He.free_ok X G0 (c.fact 45 (f := .free "zip") rfl), List.forall_mem_cons.mpr ⟨He.free_ok X G0 (c.fact 46 (f := .free "enumerate") rfl), (fun _ h => nomatch h)⟩⟩⟩⟩⟩⟩⟩⟩⟩⟩⟩⟩⟩⟩⟩⟩⟩⟩⟩⟩⟩
  cs := fun z hz => cstB_ok X G0 (List.all_eq_true.mp (Bool.and_eq_true_iff.mp cx).1 z hz)
  gcd := fun hg => bltB_ok X G0 (by have q := (Bool.and_eq_true_iff.mp (Bool.and_eq_true_iff.mp cx).2).1; rw [hg] at q; simpa using q)
  tb := fun t ht => tab_ok X G0 (tx t ht) (List.all_eq_true.mp (Bool.and_eq_true_iff.mp (Bool.and_eq_true_iff.mp cx).2).2 t ht)
theorem lawdef : (HandSHeadRun.topDef (PySem.W.OpenLaw.row PySem.Challenge.rw_safehelms_k36_whole_runs_on_the_machine).prog 41).name = ("law" : PySem.Str) := by kernel_rfl
end K36
open PySem PySem.W PySem.Calls PyProof.Rows
theorem PySem.Challenge.cw_safehelms_k36_whole_runs_on_the_machine_holds : PySem.Challenge.rw_safehelms_k36_whole_runs_on_the_machine.Holds := by
  w_on; o_law
  refine HandSHeadRun.head_any (r := OpenLaw.row PySem.Challenge.rw_safehelms_k36_whole_runs_on_the_machine) (q := view (OpenLaw.row PySem.Challenge.rw_safehelms_k36_whole_runs_on_the_machine).prog [41]) (H := K36.hk) (ob := K36.ob) (M := 3000) (loose := K36.loose) (d := HandSHeadRun.topDef (OpenLaw.row PySem.Challenge.rw_safehelms_k36_whole_runs_on_the_machine).prog 41) (kwd := []) K36.ob_eq
    (by kernel_rfl) (fun s => by kernel_rfl) K36.run (by kernel_rfl) (by kernel_rfl) (by kernel_rfl) (by rfl) (by first | assumption | decide +kernel) (by decide +kernel) ⟨rfl, rfl, rfl, rfl, rfl, by decide +kernel⟩ ?hw ?hc
  case hw => w_witness2
  case hc =>
    refine Rf.Fg.walkE (l := PySem.Challenge.rw_safehelms_k36_whole_runs_on_the_machine) (n := K36.most) (k := K36.lv + 1) (x := "_law_script") (by kernel_rfl) (by decide) (by kernel_rfl) ⟨rfl, by decide, by decide⟩ ?F
    intro w mg fa h Y G0 hmg0
    obtain ⟨K, KX, c, cx, tx⟩ := Y
    have hmg : mg ("law" : PySem.Str) = some (.ref fa) := by
      rw [← K36.lawdef]
      exact hmg0
    have T := K36.tp (w := w) KX G0 c cx tx
    obtain ⟨fd, F⟩ := T.df 25 K36.p25 rfl
    have e := hmg.symm.trans (He.glo_ok KX G0 (c.fact 25 (f := .glo "law") rfl))
    cases e
    have b := L2.FunD.bindsA (ps := ["_law_script"]) F fun _ _ _ _ _ _ us hl => match us, hl with | [_], _ => by kernel_rfl
    exact ⟨K, fd, _, KX, fun s v => b s [v] rfl, fun H a ns hl _ hS => Rf.sp_law (F := Rf.callN K36.B K36.lv) (id := 25) (Nat.le_trans hl (by decide)) hS (by rw [← K36.fx]; exact K36.holds ns hl), fun base _ _ => Rf.fg_all (C := K36.C) (W := 1000000) (fu := 200) T K36.lv 25 K36.p25 fd rfl F⟩
