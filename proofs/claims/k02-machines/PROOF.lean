import PyProof.Rows.All
import Wide.All
import OpenK.AllK
import Wide.FinOn
import HandS.ForMost
import HandS.ForExc
import HandS.TryMany
import HandS.IsInst
import HandS.TupAny
import HandS.TupMul
import HandS.Style
import HandS.CallSlots
import HandS.ExcInit
import HandS.ExcField
import HandS.Text
import HandS.Ends
import HandS.ExcIs
import PySem.Challenge.RW_dutyweeks_k02_machines
set_option Elab.async false
set_option linter.all false
set_option maxRecDepth 100000
set_option maxHeartbeats 4000000
set_option autoImplicit false
/-! Dw: a second layer over the hand layer: values as plain data, a def as a function of data (its mirror), judged rule by rule. -/
namespace Dw
open PySem PySem.Spec L2

/-- plain data -/
inductive D where
  | non | bl (b : Bool) | int (i : Int) | str (s : Str)
  | tup (xs : List D) | lst (xs : List D) | ins (C : Str) (ks : List Str) (xs : List D)
/-- what a name may hold: data, or a cell that is changed in place -/
inductive Ar where
  | d (x : D) | cel (i : Nat) | scr (ns : List Int) | exn (ks : List Str) (ds : List D)
/-- what stands in a cell -/
inductive Cl where
  | lst (xs : List D) | ins (C : Str) (ks : List Str) (xs : List D)
inductive R (α : Type) where
  | ok (a : α) (m : List Cl)
  | exc (C : Str) (ks : List Str) (ds : List D) (m : List Cl)
  | stuck
def R.bd {α β : Type} (r : R α) (k : α → List Cl → R β) : R β :=
  match r with
  | .ok a m => k a m
  | .exc C ks ds m => .exc C ks ds m
  | .stuck => .stuck
abbrev Gm := List (Option Ar)
abbrev Mu := List Cl
abbrev ME := Gm → Mu → R Ar
abbrev MT := Gm → Mu → R Bool
abbrev MA := Gm → Mu → R (List Ar)
inductive RS where
  | nx (g : Gm) (m : Mu) | rt (a : Ar) (m : Mu) | bk (g : Gm) (m : Mu) | ct (g : Gm) (m : Mu)
  | exc (C : Str) (ks : List Str) (ds : List D) (g : Gm) (m : Mu) | stuck
abbrev MS := Gm → Mu → RS

structure Ct where
  K : PySem.W.Frag
  mg : Str → Option Value
  /-- the error that an except suite holds, and its own dict -/
  xd : Option (Addr × Addr)

/-! ### heaps -/
def Ex (H H' : Hp) : Prop := ∀ a o, H a = some o → H' a = some o
theorem Ex.refl (H : Hp) : Ex H H := fun _ _ h => h
theorem Ex.trans {H H1 H2 : Hp} (a : Ex H H1) (b : Ex H1 H2) : Ex H H2 := fun x o h => b x o (a x o h)
theorem Ex.new {H : Hp} {p : Addr} {o : HO} (h : H p = none) : Ex H (upd H p o) := fun a u e => by
  rw [upd_ne (ne_of_none e h)]
  exact e
/-- one step: what stands outside the cells stays, new cells are new -/
structure Ch (H : Hp) (ad : List Addr) (H' : Hp) (ad' : List Addr) : Prop where
  keep : ∀ a o, H a = some o → a ∉ ad → H' a = some o
  there : ∀ a, H a ≠ none → H' a ≠ none
  pre : ∃ t, ad' = ad ++ t ∧ ∀ a ∈ t, H a = none
theorem Ch.refl (H : Hp) (ad : List Addr) : Ch H ad H ad := ⟨fun _ _ h _ => h, fun _ h => h, [], by simp, by simp⟩
theorem Ch.ex {H H' : Hp} {ad : List Addr} (e : Ex H H') : Ch H ad H' ad := ⟨fun a o h _ => e a o h, fun a h z => (by
  cases q : H a with
  | none => exact h q
  | some o => (rw [e a o q] at z; cases z)), [], (by simp), (by simp)⟩
theorem Ch.out {H H' : Hp} {ad ad' : List Addr} (c : Ch H ad H' ad') {a : Addr} {o : HO} (h : H a = some o) (n : a ∉ ad) : a ∉ ad' := by
  obtain ⟨t, rfl, ht⟩ := c.pre
  intro hm
  rcases List.mem_append.mp hm with h1 | h1
  · exact n h1
  · rw [ht a h1] at h; cases h
theorem Ch.trans {H H1 H2 : Hp} {ad ad1 ad2 : List Addr} (a : Ch H ad H1 ad1) (b : Ch H1 ad1 H2 ad2) : Ch H ad H2 ad2 := by
  refine ⟨fun x o h n => b.keep x o (a.keep x o h n) (a.out h n), fun x h => b.there x (a.there x h), ?_⟩
  obtain ⟨t, rfl, ht⟩ := a.pre
  obtain ⟨u, rfl, hu⟩ := b.pre
  refine ⟨t ++ u, by simp, fun x hx => ?_⟩
  rcases List.mem_append.mp hx with h1 | h1
  · exact ht x h1
  · cases e : H x with
    | none => rfl
    | some o => exact absurd (hu x h1) (a.there x (by rw [e]; simp))
theorem Ch.new {H : Hp} {ad : List Addr} {p : Addr} {o : HO} (h : H p = none) : Ch H ad (upd H p o) (ad ++ [p]) :=
  ⟨fun a u e _ => Ex.new h a u e, fun a q z => (by
    cases e : H a with
    | none => exact q e
    | some u => (rw [Ex.new h a u e] at z; cases z)), [p], rfl, fun a ha => (by
      rw [List.mem_singleton.mp ha]; exact h)⟩
theorem Ch.put {H : Hp} {ad : List Addr} {p : Addr} {o : HO} (h : p ∈ ad) : Ch H ad (upd H p o) ad :=
  ⟨fun a u e n => (by
    rw [upd_ne (fun z => n (by rw [z]; exact h))]; exact e), fun a q z => (by
    by_cases hp : a = p
    · subst hp; rw [upd_same] at z; cases z
    · rw [upd_ne hp] at z; exact q z), [], (by simp), (by simp)⟩

/-! ### data in the heap -/
/-- a tuple of the written part -/
def KT (K : PySem.W.Frag) (a : Addr) (xs : List V) : Prop :=
  ∃ (o : Obj) (its : Array Value) (n : Nat), K.lookup a = some o ∧ o.cls = .type "tuple" ∧ o.data = .seq its n ∧ its.size ≤ sizeLine ∧ Vals xs its.toList
mutual
inductive Dn (c : Ct) (H : Hp) (ad : List Addr) : V → D → Prop
  | non : Dn c H ad .non .non
  | bl (b : Bool) : Dn c H ad (.bl b) (.bl b)
  | int (i : Int) : Dn c H ad (.int i) (.int i)
  | str (x : Str) : Dn c H ad (.str x) (.str x)
  | tup {a : Addr} {xs : List V} {ds : List D} : a ∉ ad → Rd H a (.tup xs) → Dns c H ad xs ds → Dn c H ad (.ref a) (.tup ds)
  | ktup {a : Addr} {xs : List V} {ds : List D} : KT c.K a xs → Dns c H ad xs ds → Dn c H ad (.ref a) (.tup ds)
  | lst {a : Addr} {xs : List V} {ds : List D} : a ∉ ad → H a = some (.lst xs) → Dns c H ad xs ds → Dn c H ad (.ref a) (.lst ds)
  | ins {a Ca dx : Addr} {fs : List (Str × V)} {C : Str} {ks : List Str} {ds : List D} : a ∉ ad → c.mg C = some (.ref Ca) → H a = some (.ins Ca dx fs) → fs.map (·.1) = ks → Dns c H ad (fs.map (·.2)) ds → Dn c H ad (.ref a) (.ins C ks ds)
inductive Dns (c : Ct) (H : Hp) (ad : List Addr) : List V → List D → Prop
  | nil : Dns c H ad [] []
  | cons {v : V} {vs : List V} {d : D} {ds : List D} : Dn c H ad v d → Dns c H ad vs ds → Dns c H ad (v :: vs) (d :: ds)
end
theorem Rd.ch {H H' : Hp} {ad ad' : List Addr} (c : Ch H ad H' ad') {a : Addr} {u : HO} (n : a ∉ ad) (h : Rd H a u) : Rd H' a u := by
  rcases h with h | ⟨o, h⟩
  · exact .inl (c.keep a _ h n)
  · exact .inr ⟨o, c.keep a _ h n⟩
theorem Rd.out {H H' : Hp} {ad ad' : List Addr} (c : Ch H ad H' ad') {a : Addr} {u : HO} (n : a ∉ ad) (h : Rd H a u) : a ∉ ad' := by
  rcases h with h | ⟨o, h⟩
  · exact c.out h n
  · exact c.out h n
section
variable {c : Ct} {H H' : Hp} {ad ad' : List Addr}
mutual
theorem Dn.ch (h : Ch H ad H' ad') : ∀ {d : D} {v : V}, Dn c H ad v d → Dn c H' ad' v d
  | _, _, .non => .non
  | _, _, .bl b => .bl b
  | _, _, .int i => .int i
  | _, _, .str x => .str x
  | _, _, .tup n r t => .tup (Rd.out h n r) (Rd.ch h n r) (Dns.ch h t)
  | _, _, .ktup r t => .ktup r (Dns.ch h t)
  | _, _, .lst n r t => .lst (h.out r n) (h.keep _ _ r n) (Dns.ch h t)
  | _, _, .ins n m e k t => .ins (h.out e n) m (h.keep _ _ e n) k (Dns.ch h t)
theorem Dns.ch (h : Ch H ad H' ad') : ∀ {ds : List D} {vs : List V}, Dns c H ad vs ds → Dns c H' ad' vs ds
  | _, _, .nil => .nil
  | _, _, .cons a b => .cons (Dn.ch h a) (Dns.ch h b)
end
mutual
/-- fewer cells are asked -/
theorem Dn.sub (h : ∀ a ∈ ad', a ∈ ad) : ∀ {d : D} {v : V}, Dn c H ad v d → Dn c H ad' v d
  | _, _, .non => .non
  | _, _, .bl b => .bl b
  | _, _, .int i => .int i
  | _, _, .str x => .str x
  | _, _, .tup n r t => .tup (fun z => n (h _ z)) r (Dns.sub h t)
  | _, _, .ktup r t => .ktup r (Dns.sub h t)
  | _, _, .lst n r t => .lst (fun z => n (h _ z)) r (Dns.sub h t)
  | _, _, .ins n m e k t => .ins (fun z => n (h _ z)) m e k (Dns.sub h t)
theorem Dns.sub (h : ∀ a ∈ ad', a ∈ ad) : ∀ {ds : List D} {vs : List V}, Dns c H ad vs ds → Dns c H ad' vs ds
  | _, _, .nil => .nil
  | _, _, .cons a b => .cons (Dn.sub h a) (Dns.sub h b)
end
theorem Dns.length : ∀ {vs : List V} {ds : List D}, Dns c H ad vs ds → vs.length = ds.length
  | _, _, .nil => rfl
  | _, _, .cons _ t => congrArg (· + 1) (Dns.length t)
theorem Dns.get : ∀ {vs : List V} {ds : List D} {i : Nat} {d : D}, Dns c H ad vs ds → ds[i]? = some d → ∃ v, vs[i]? = some v ∧ Dn c H ad v d
  | _, _, _, _, .nil, e => by simp at e
  | _, _, 0, _, .cons a _, e => by simp at e; subst e; exact ⟨_, rfl, a⟩
  | _, _, i + 1, d, .cons _ t, e => by
    obtain ⟨v, h1, h2⟩ := Dns.get (i := i) (d := d) t (by simpa using e)
    exact ⟨v, by simpa using h1, h2⟩
theorem Dns.get' : ∀ {vs : List V} {ds : List D} {i : Nat} {v : V}, Dns c H ad vs ds → vs[i]? = some v → ∃ d, ds[i]? = some d ∧ Dn c H ad v d
  | _, _, _, _, .nil, e => by simp at e
  | _, _, 0, _, .cons a _, e => by simp at e; subst e; exact ⟨_, rfl, a⟩
  | _, _, i + 1, v, .cons _ t, e => by
    obtain ⟨d, h1, h2⟩ := Dns.get' (i := i) (v := v) t (by simpa using e)
    exact ⟨d, by simpa using h1, h2⟩
theorem Dns.append : ∀ {vs ws : List V} {ds es : List D}, Dns c H ad vs ds → Dns c H ad ws es → Dns c H ad (vs ++ ws) (ds ++ es)
  | _, _, _, _, .nil, h => h
  | _, _, _, _, .cons a t, h => .cons a (Dns.append t h)
theorem Dns.take : ∀ {vs : List V} {ds : List D} (n : Nat), Dns c H ad vs ds → Dns c H ad (vs.take n) (ds.take n)
  | _, _, 0, _ => by simp; exact .nil
  | _, _, _ + 1, .nil => by simp; exact .nil
  | _, _, n + 1, .cons a t => by simp; exact .cons a (Dns.take n t)
theorem Dns.drop : ∀ {vs : List V} {ds : List D} (n : Nat), Dns c H ad vs ds → Dns c H ad (vs.drop n) (ds.drop n)
  | _, _, 0, h => by simpa using h
  | _, _, _ + 1, .nil => by simp; exact .nil
  | _, _, n + 1, .cons _ t => by simpa using Dns.drop n t
theorem Dns.set : ∀ {vs : List V} {ds : List D} (n : Nat) {v : V} {d : D}, Dns c H ad vs ds → Dn c H ad v d → Dns c H ad (vs.set n v) (ds.set n d)
  | _, _, _, _, _, .nil, _ => by simp; exact .nil
  | _, _, 0, _, _, .cons _ t, h => by simp; exact .cons h t
  | _, _, n + 1, _, _, .cons a t, h => by simp; exact .cons a (Dns.set n t h)
theorem Dns.rep {vs : List V} {ds : List D} (h : Dns c H ad vs ds) : ∀ k : Nat, Dns c H ad (List.replicate k vs).flatten (List.replicate k ds).flatten
  | 0 => by simp; exact .nil
  | k + 1 => by
    rw [List.replicate_succ, List.replicate_succ, List.flatten_cons, List.flatten_cons]
    exact Dns.append h (Dns.rep h k)

/-- a name's thing -/
inductive An (c : Ct) (H : Hp) (ad : List Addr) : V → Ar → Prop
  | d {v : V} {x : D} : Dn c H ad v x → An c H ad v (.d x)
  | cel {a : Addr} {i : Nat} : ad[i]? = some a → An c H ad (.ref a) (.cel i)
  | scr {a : Addr} {ns : List Int} : a ∉ ad → SqL c.K H a (ns.map V.int) → (H a = none → False) → An c H ad (.ref a) (.scr ns)
  | kscr {a : Addr} {ns : List Int} : (∀ H', SqL c.K H' a (ns.map V.int)) → An c H ad (.ref a) (.scr ns)
  | exn {a dd : Addr} {fs : List (Str × V)} {ks : List Str} {ds : List D} : c.xd = some (a, dd) → dd ∉ ad → H dd = some (.xd fs) → fs.map (·.1) = ks → Dns c H ad (fs.map (·.2)) ds → An c H ad (.ref a) (.exn ks ds)
inductive Ans (c : Ct) (H : Hp) (ad : List Addr) : List V → List Ar → Prop
  | nil : Ans c H ad [] []
  | cons {v : V} {vs : List V} {x : Ar} {xs : List Ar} : An c H ad v x → Ans c H ad vs xs → Ans c H ad (v :: vs) (x :: xs)
theorem An.ch (h : Ch H ad H' ad') : ∀ {v : V} {x : Ar}, An c H ad v x → An c H' ad' v x
  | _, _, .d a => .d (a.ch h)
  | _, _, .cel e => by
    obtain ⟨t, rfl, _⟩ := h.pre
    exact .cel (by rw [List.getElem?_append_left (List.getElem?_eq_some_iff.mp e).1]; exact e)
  | _, _, .kscr q => .kscr q
  | _, _, .exn x n e k t => .exn x (h.out e n) (h.keep _ _ e n) k (t.ch h)
  | _, _, @An.scr _ _ _ a _ n q z => by
    cases e : H a with
    | none => exact (z e).elim
    | some o =>
      refine .scr (h.out e n) ?_ fun e' => h.there a (by rw [e]; simp) e'
      rcases q with q | q
      · exact .inl (Rd.ch h n q)
      · exact .inr q
theorem Ans.ch (h : Ch H ad H' ad') : ∀ {vs : List V} {xs : List Ar}, Ans c H ad vs xs → Ans c H' ad' vs xs
  | _, _, .nil => .nil
  | _, _, .cons a t => .cons (a.ch h) (Ans.ch h t)
theorem Ans.length : ∀ {vs : List V} {xs : List Ar}, Ans c H ad vs xs → vs.length = xs.length
  | _, _, .nil => rfl
  | _, _, .cons _ t => congrArg (· + 1) (Ans.length t)
theorem Ans.get' : ∀ {vs : List V} {xs : List Ar} {i : Nat} {x : Ar}, Ans c H ad vs xs → xs[i]? = some x → ∃ v, vs[i]? = some v ∧ An c H ad v x
  | _, _, _, _, .nil, e => by simp at e
  | _, _, 0, _, .cons a _, e => by simp at e; subst e; exact ⟨_, rfl, a⟩
  | _, _, i + 1, d, .cons _ t, e => by
    obtain ⟨v, h1, h2⟩ := Ans.get' (i := i) (x := d) t (by simpa using e)
    exact ⟨v, by simpa using h1, h2⟩

/-! ### the cells -/
def CellOk (c : Ct) (H : Hp) (ad : List Addr) (a : Addr) : Cl → Prop
  | .lst ds => ∃ vs, H a = some (.lst vs) ∧ Dns c H ad vs ds
  | .ins C ks ds => ∃ Ca dx fs, c.mg C = some (.ref Ca) ∧ H a = some (.ins Ca dx fs) ∧ fs.map (·.1) = ks ∧ Dns c H ad (fs.map (·.2)) ds
theorem CellOk.sub (h : ∀ a ∈ ad', a ∈ ad) {a : Addr} {cl : Cl} (x : CellOk c H ad a cl) : CellOk c H ad' a cl := by
  cases cl with
  | lst ds => obtain ⟨vs, e1, t⟩ := x; exact ⟨vs, e1, t.sub h⟩
  | ins C ks ds => obtain ⟨Ca, dx, fs, m, e1, k, t⟩ := x; exact ⟨Ca, dx, fs, m, e1, k, t.sub h⟩
structure Sto (c : Ct) (H : Hp) (ad : List Addr) (m : Mu) : Prop where
  nd : ad.Nodup
  len : ad.length = m.length
  at_ : ∀ (i : Nat) (a : Addr) (cl : Cl), ad[i]? = some a → m[i]? = some cl → CellOk c H ad a cl
theorem CellOk.got {a : Addr} {cl : Cl} (h : CellOk c H ad a cl) : ∃ o, H a = some o := by
  cases cl with
  | lst ds => obtain ⟨vs, e, _⟩ := h; exact ⟨_, e⟩
  | ins C ks ds => obtain ⟨_, _, _, _, e, _⟩ := h; exact ⟨_, e⟩
theorem CellOk.mv (h : Ch H ad H' ad') {a : Addr} {cl : Cl} (e : H' a = H a) (x : CellOk c H ad a cl) : CellOk c H' ad' a cl := by
  cases cl with
  | lst ds => obtain ⟨vs, e1, t⟩ := x; exact ⟨vs, e.trans e1, t.ch h⟩
  | ins C ks ds => obtain ⟨Ca, dx, fs, m, e1, k, t⟩ := x; exact ⟨Ca, dx, fs, m, e.trans e1, k, t.ch h⟩
theorem Sto.ex {m : Mu} (s : Sto c H ad m) (e : Ex H H') : Sto c H' ad m := ⟨s.nd, s.len, fun i a cl h1 h2 => by
  have x := s.at_ i a cl h1 h2
  obtain ⟨o, eo⟩ := x.got
  exact x.mv (.ex e) ((e a o eo).trans eo.symm)⟩
theorem Sto.cl {m : Mu} (s : Sto c H ad m) {i : Nat} {a : Addr} (h : ad[i]? = some a) : ∃ cl, m[i]? = some cl ∧ CellOk c H ad a cl := by
  have hi : i < m.length := by rw [← s.len]; exact (List.getElem?_eq_some_iff.mp h).1
  exact ⟨m[i], by simp [hi], s.at_ i a _ h (by simp [hi])⟩
theorem Sto.addr {m : Mu} (s : Sto c H ad m) {i : Nat} {cl : Cl} (h : m[i]? = some cl) : ∃ a, ad[i]? = some a ∧ CellOk c H ad a cl := by
  have hi : i < ad.length := by rw [s.len]; exact (List.getElem?_eq_some_iff.mp h).1
  exact ⟨ad[i], by simp [hi], s.at_ i _ cl (by simp [hi]) h⟩
/-- a cell is written -/
theorem Sto.put {m : Mu} {i : Nat} {p : Addr} {o : HO} {cl : Cl} (s : Sto c H ad m) (h : ad[i]? = some p) (x : CellOk c (upd H p o) ad p cl) : Sto c (upd H p o) ad (m.set i cl) := by
  have hp : p ∈ ad := List.mem_of_getElem? h
  refine ⟨s.nd, by simp [s.len], fun j a cl' h1 h2 => ?_⟩
  by_cases hj : j = i
  · subst hj
    rw [h] at h1; cases h1
    have hl : j < m.length := by rw [← s.len]; exact (List.getElem?_eq_some_iff.mp h).1
    rw [List.getElem?_set_self hl] at h2; cases h2
    exact x
  · rw [List.getElem?_set_ne (Ne.symm hj)] at h2
    have hne : a ≠ p := fun e => by
      subst e
      exact hj ((List.getElem?_inj (List.getElem?_eq_some_iff.mp h1).1 s.nd).mp (h1.trans h.symm))
    exact (s.at_ j a cl' h1 h2).mv (.put hp) (upd_ne hne)
/-- a new cell -/
theorem Sto.new {m : Mu} {p : Addr} {o : HO} {cl : Cl} (s : Sto c H ad m) (h : H p = none) (x : CellOk c (upd H p o) (ad ++ [p]) p cl) : Sto c (upd H p o) (ad ++ [p]) (m ++ [cl]) := by
  have np : p ∉ ad := fun z => by
    obtain ⟨i, hi⟩ := List.getElem?_of_mem z
    obtain ⟨cl', _, y⟩ := s.cl hi
    obtain ⟨o', e⟩ := y.got
    rw [h] at e; cases e
  refine ⟨?_, by simp [s.len], fun j a cl' h1 h2 => ?_⟩
  · rw [List.nodup_append]
    exact ⟨s.nd, by simp, fun a ha b hb => by rw [List.mem_singleton.mp hb]; exact fun e => np (e ▸ ha)⟩
  · by_cases hj : j < ad.length
    · rw [List.getElem?_append_left hj] at h1
      rw [List.getElem?_append_left (by rw [← s.len]; exact hj)] at h2
      exact (s.at_ j a cl' h1 h2).mv (.new h) (upd_ne fun e => np (e ▸ List.mem_of_getElem? h1))
    · have e : j = ad.length := by
        have := (List.getElem?_eq_some_iff.mp h1).1
        simp at this
        omega
      subst e
      rw [List.getElem?_append_right (Nat.le_refl _)] at h1
      rw [List.getElem?_append_right (by rw [s.len]; exact Nat.le_refl _)] at h2
      simp at h1
      rw [s.len] at h2
      simp at h2
      subst h1 h2
      exact x
/-- cells forgotten from the end -/
theorem Sto.cut {m : Mu} {n : Nat} (s : Sto c H ad m) : Sto c H (ad.take n) (m.take n) := by
  refine ⟨s.nd.sublist (List.take_sublist _ _), by simp [s.len], fun i a cl h1 h2 => ?_⟩
  rw [List.getElem?_take] at h1 h2
  split at h1
  · rename_i hi
    rw [if_pos hi] at h2
    exact (s.at_ i a cl h1 h2).sub fun b hb => List.mem_of_mem_take hb
  · cases h1
end

/-! ### slots -/
def Sl (c : Ct) (H : Hp) (ad : List Addr) (σ : L2.St) (g : Gm) : Prop :=
  g.length = σ.length ∧ ∀ (i : Nat) (x : Ar), g[i]? = some (some x) → ∃ v, σ[i]? = some (some v) ∧ An c H ad v x
section
variable {c : Ct} {H H' : Hp} {ad ad' : List Addr} {σ : L2.St} {g : Gm}
theorem Sl.ch (h : Ch H ad H' ad') (s : Sl c H ad σ g) : Sl c H' ad' σ g := ⟨s.1, fun i x e => by
  obtain ⟨v, e1, a⟩ := s.2 i x e
  exact ⟨v, e1, a.ch h⟩⟩
theorem Sl.set {i : Nat} {v : V} {x : Ar} (s : Sl c H ad σ g) (a : An c H ad v x) : Sl c H ad (σ.set i (some v)) (g.set i (some x)) := by
  refine ⟨by simp [s.1], fun j y e => ?_⟩
  by_cases hj : i = j
  · subst hj
    by_cases hl : i < g.length
    · rw [List.getElem?_set_self hl] at e
      cases e
      exact ⟨v, by rw [List.getElem?_set_self (by rw [← s.1]; exact hl)], a⟩
    · rw [List.getElem?_eq_none (by simpa using hl)] at e; cases e
  · rw [List.getElem?_set_ne hj] at e
    obtain ⟨w, e1, b⟩ := s.2 j y e
    exact ⟨w, by rw [List.getElem?_set_ne hj]; exact e1, b⟩
theorem Sl.del {i : Nat} (s : Sl c H ad σ g) : Sl c H ad (σ.set i none) (g.set i none) := by
  refine ⟨by simp [s.1], fun j y e => ?_⟩
  by_cases hj : i = j
  · subst hj
    by_cases hl : i < g.length
    · rw [List.getElem?_set_self hl] at e; cases e
    · rw [List.getElem?_eq_none (by simpa using hl)] at e; cases e
  · rw [List.getElem?_set_ne hj] at e
    obtain ⟨w, e1, b⟩ := s.2 j y e
    exact ⟨w, by rw [List.getElem?_set_ne hj]; exact e1, b⟩
/-- the slots of a block's own names forgotten -/
def wipeG (g : Gm) : List Nat → Gm
  | [] => g
  | v :: vs => (wipeG g vs).set v none
theorem Sl.wipe (s : Sl c H ad σ g) : ∀ vs : List Nat, Sl c H ad (L2.wipe σ vs) (wipeG g vs)
  | [] => s
  | v :: vs => Sl.del (Sl.wipe s vs)
end

/-! ### what is wanted of a result -/
def OutG {α β : Type} (c : Ct) (W : WX) (σ : L2.St) (H : Hp) (ad : List Addr) (rel : Hp → List Addr → β → α → Prop) (r : R α) (Q : β → Hp → Prop) : Prop :=
  match r with
  | .ok x m => ∀ v H' ad', Ch H ad H' ad' → Sto c H' ad' m → rel H' ad' v x → Q v H'
  | .exc C ks ds m => ∀ Ca x fs H' ad', c.mg C = some (.ref Ca) → Ch H ad H' ad' → Sto c H' ad' m → x ∉ ad' → H' x = some (.xd fs) → fs.map (·.1) = ks → Dns c H' ad' (fs.map (·.2)) ds → W (.ref Ca) (some x) σ H'
  | .stuck => False
section
variable {α β γ δ : Type} {c : Ct} {W : WX} {σ : L2.St} {H H1 : Hp} {ad ad1 : List Addr}
theorem OutG.mv (h : Ch H ad H1 ad1) {rel : Hp → List Addr → β → α → Prop} {r : R α} {Q : β → Hp → Prop} (o : OutG c W σ H ad rel r Q) : OutG c W σ H1 ad1 rel r Q := by
  cases r with
  | ok x m => exact fun v H' ad' a b d => o v H' ad' (h.trans a) b d
  | exc C ks ds m => exact fun Ca x fs H' ad' e a b d => o Ca x fs H' ad' e (h.trans a) b d
  | stuck => exact o
theorem OutG.imp {rel : Hp → List Addr → β → α → Prop} {r : R α} {Q Q' : β → Hp → Prop} (o : OutG c W σ H ad rel r Q) (h : ∀ v H', Q v H' → Q' v H') : OutG c W σ H ad rel r Q' := by
  cases r with
  | ok x m => exact fun v H' ad' a b d => h v H' (o v H' ad' a b d)
  | exc C ks ds m => exact o
  | stuck => exact o
/-- a first result, then the rest -/
theorem OutG.bd {rel : Hp → List Addr → β → α → Prop} {rel' : Hp → List Addr → δ → γ → Prop} {r : R α} {k : α → List Cl → R γ} {Q : δ → Hp → Prop} (o : OutG c W σ H ad rel' (r.bd k) Q) :
    OutG c W σ H ad rel r (fun v H' => ∃ ad' m x, Ch H ad H' ad' ∧ Sto c H' ad' m ∧ rel H' ad' v x ∧ OutG c W σ H' ad' rel' (k x m) Q) := by
  cases r with
  | ok x m => exact fun v H' ad' a b d => ⟨ad', m, x, a, b, d, OutG.mv a o⟩
  | exc C ks ds m => exact o
  | stuck => exact o
end
abbrev relB : Hp → List Addr → Bool → Bool → Prop := fun _ _ b b' => b = b'

/-- a mirror as a reading: of an expression, a test, arguments -/
def lft (c : Ct) (W : WX) (m : ME) : TE := fun σ H Q => ∃ g ad mu, Sl c H ad σ g ∧ Sto c H ad mu ∧ OutG c W σ H ad (An c) (m g mu) Q
def lftT (c : Ct) (W : WX) (m : MT) : TT := fun σ H Q => ∃ g ad mu, Sl c H ad σ g ∧ Sto c H ad mu ∧ OutG c W σ H ad relB (m g mu) Q
def lftA (c : Ct) (W : WX) (m : MA) : TA := fun σ H Q => ∃ g ad mu, Sl c H ad σ g ∧ Sto c H ad mu ∧ OutG c W σ H ad (Ans c) (m g mu) Q
theorem _root_.L2.PE.weak {X : Cx} {e : Expr} {t t' : TE} (h : PE X e t) (hw : ∀ σ H Q, t' σ H Q → t σ H Q) : PE X e t' := ⟨fun pins s σ H Q I q => h.run pins s σ H Q I (hw σ H Q q)⟩
theorem _root_.L2.PT.weak {X : Cx} {e : Expr} {t t' : TT} (h : PT X e t) (hw : ∀ σ H Q, t' σ H Q → t σ H Q) : PT X e t' := ⟨fun pins s σ H Q I q => h.run pins s σ H Q I (hw σ H Q q)⟩
theorem _root_.L2.PW.weak {X : Cx} {e : Expr} {t t' : TT} (h : PW X e t) (hw : ∀ σ H Q, t' σ H Q → t σ H Q) : PW X e t' := ⟨fun wh pins s σ H Q I q => h.run wh pins s σ H Q I (hw σ H Q q)⟩
theorem _root_.L2.PA.weak {X : Cx} {e : List Expr} {t t' : TA} (h : PA X e t) (hw : ∀ σ H Q, t' σ H Q → t σ H Q) : PA X e t' := ⟨fun pos pins s σ H Q I q => h.run pos pins s σ H Q I (hw σ H Q q)⟩
theorem _root_.L2.PS.weak {X : Cx} {e : Stmt} {t t' : TS} (h : PS X e t) (hw : ∀ D σ H, t' D σ H → t D σ H) : PS X e t' := ⟨fun pins s σ H D I q => h.run pins s σ H D I (hw D σ H q)⟩
theorem _root_.L2.PSs.weak {X : Cx} {e : List Stmt} {t t' : TS} (h : PSs X e t) (hw : ∀ D σ H, t' D σ H → t D σ H) : PSs X e t' := ⟨fun pins s σ H D I q => h.run pins s σ H D I (hw D σ H q)⟩
theorem _root_.L2.PO.weak {X : Cx} {e : Option Expr} {t t' : TO} (h : PO X e t) (hw : ∀ σ H Q, t' σ H Q → t σ H Q) : PO X e t' := ⟨fun pins s σ H Q I q => h.run pins s σ H Q I (hw σ H Q q)⟩

/-! ### expressions -/
def mVar (i : Nat) : ME := fun g mu => match g[i]? with
  | some (some x) => .ok x mu
  | _ => .stuck
def mC (x : D) : ME := fun _ mu => .ok (.d x) mu
section
variable {X : Cx} {c : Ct} {W : WX}
theorem de_var {i : Nat} {e : Expr} (h : PE X e (tVar i)) : PE X e (lft c W (mVar i)) := h.weak fun σ H Q ⟨g, ad, mu, hS, hT, o⟩ => by
  unfold mVar at o
  split at o
  · rename_i x e1
    obtain ⟨v, e2, a⟩ := hS.2 i x e1
    exact ⟨v, e2, o v H ad (.refl _ _) hT a⟩
  · exact o.elim
theorem de_c {v : V} {x : D} {e : Expr} (h : PE X e (tC v)) (hv : ∀ H ad, Dn c H ad v x) : PE X e (lft c W (mC x)) := h.weak fun σ H Q ⟨g, ad, mu, hS, hT, o⟩ => o v H ad (.refl _ _) hT (.d (hv H ad))
theorem de_int {i j pos} : PE X (.Constant (.int i) j pos) (lft c W (mC (.int i))) := de_c pe_int fun _ _ => .int i
theorem de_bl {b j pos} : PE X (.Constant (.bool b) j pos) (lft c W (mC (.bl b))) := de_c pe_bl fun _ _ => .bl b
theorem de_non {j pos} : PE X (.Constant .none j pos) (lft c W (mC .non)) := de_c pe_non fun _ _ => .non
theorem de_str {x j pos} : PE X (.Constant (.str x) j pos) (lft c W (mC (.str x))) := de_c pe_str fun _ _ => .str x

/-! ### two operands -/
def mBin (f : Mu → Ar → Ar → Option D) (a b : ME) : ME := fun g mu => (a g mu).bd fun x mu1 => (b g mu1).bd fun y mu2 => match f mu2 x y with
  | some z => .ok (.d z) mu2
  | none => .stuck
/-- an operation on values does what f does on data -/
def OpD (c : Ct) (r : R2) (f : Mu → Ar → Ar → Option D) : Prop :=
  ∀ (H : Hp) (ad : List Addr) (mu : Mu) (v w : V) (x y : Ar) (z : D), Sto c H ad mu → An c H ad v x → An c H ad w y → f mu x y = some z → ∀ Q : VK, (∀ u H', Ex H H' → Dn c H' ad u z → Q u H') → r v w H Q
theorem two_run {f : Mu → Ar → Ar → Option D} {r : R2} {ma mb : ME} (hf : OpD c r f) {σ : L2.St} {H : Hp} {Q : VK} (h : lft c W (mBin f ma mb) σ H Q) : tOp r (lft c W ma) (lft c W mb) σ H Q := by
  obtain ⟨g, ad, mu, hS, hT, o⟩ := h
  refine ⟨g, ad, mu, hS, hT, OutG.imp (OutG.bd (rel := An c) o) fun v H1 ⟨ad1, mu1, x, ch1, t1, dx, o1⟩ => ?_⟩
  refine ⟨g, ad1, mu1, hS.ch ch1, t1, OutG.imp (OutG.bd (rel := An c) o1) fun w H2 ⟨ad2, mu2, y, ch2, t2, dy, o2⟩ => ?_⟩
  cases hz : f mu2 x y with
  | none => rw [hz] at o2; exact o2.elim
  | some z =>
    rw [hz] at o2
    exact hf H2 ad2 mu2 v w x y z t2 (dx.ch ch2) dy hz Q fun u H' e d => o2 u H' ad2 (.ex e) (t2.ex e) (.d d)
theorem de_bin {op : Operator} {r : R2} {f : Mu → Ar → Ar → Option D} {a b : Expr} {ma mb : ME} {pos : Pos} (ho : OpR X (binaryOp op) r) (hf : OpD c r f) (ha : PE X a (lft c W ma)) (hb : PE X b (lft c W mb)) : PE X (.BinOp a op b pos) (lft c W (mBin f ma mb)) :=
  (pe_op ho ha hb).weak fun σ H Q h => two_run hf h
theorem de_cmp {op : CmpOp} {r : R2} {f : Mu → Ar → Ar → Option D} {a b : Expr} {ma mb : ME} {pos : Pos} (ho : OpR X (compareOp op) r) (hf : OpD c r f) (hm : behindInMarks op b = false) (ha : PE X a (lft c W ma)) (hb : PE X b (lft c W mb)) : PE X (.Compare a [op] [b] pos) (lft c W (mBin f ma mb)) :=
  (pe_cmpR ho ha hb hm).weak fun σ H Q h => two_run hf h
theorem de_ix {r : R2} {f : Mu → Ar → Ar → Option D} {a b : Expr} {ma mb : ME} {pos : Pos} (ho : IxR X r) (hf : OpD c r f) (ha : PE X a (lft c W ma)) (hb : PE X b (lft c W mb)) (hs : PlainIx b := by intro _ _; rfl) : PE X (.Subscript a b pos) (lft c W (mBin f ma mb)) :=
  (pe_ix ho ha hb hs).weak fun σ H Q h => two_run hf h
def mUn (f : Mu → Ar → Option D) (a : ME) : ME := fun g mu => (a g mu).bd fun x mu1 => match f mu1 x with
  | some z => .ok (.d z) mu1
  | none => .stuck
def UnD (c : Ct) (r : V → Hp → VK → Prop) (f : Mu → Ar → Option D) : Prop :=
  ∀ (H : Hp) (ad : List Addr) (mu : Mu) (v : V) (x : Ar) (z : D), Sto c H ad mu → An c H ad v x → f mu x = some z → ∀ Q : VK, (∀ u H', Ex H H' → Dn c H' ad u z → Q u H') → r v H Q
theorem de_un {op : UnaryOp} {r : V → Hp → VK → Prop} {f : Mu → Ar → Option D} {a : Expr} {ma : ME} {pos : Pos} (ho : UnR X (unaryOp op) r) (hf : UnD c r f) (ha : PE X a (lft c W ma)) : PE X (.UnaryOp op a pos) (lft c W (mUn f ma)) :=
  (pe_un ho ha).weak fun σ H Q ⟨g, ad, mu, hS, hT, o⟩ => by
    refine ⟨g, ad, mu, hS, hT, OutG.imp (OutG.bd (rel := An c) o) fun v H1 ⟨ad1, mu1, x, ch1, t1, dx, o1⟩ => ?_⟩
    cases hz : f mu1 x with
    | none => rw [hz] at o1; exact o1.elim
    | some z =>
      rw [hz] at o1
      exact hf H1 ad1 mu1 v x z t1 dx hz Q fun u H' e d => o1 u H' ad1 (.ex e) (t1.ex e) (.d d)
/-- a op1 b op2 c -/
def mChain (f f' : Mu → Ar → Ar → Option D) (a b d : ME) : ME := fun g mu => (a g mu).bd fun x mu1 => (b g mu1).bd fun y mu2 => match f mu2 x y with
  | some (.bl true) => (d g mu2).bd fun z mu3 => (match f' mu3 y z with
    | some u => .ok (.d u) mu3
    | none => .stuck)
  | some (.bl false) => .ok (.d (.bl false)) mu2
  | _ => .stuck
theorem chain_run {r r' : R2} {f f' : Mu → Ar → Ar → Option D} {ma mb md : ME} (hf : OpD c r f) (hf' : OpD c r' f') {σ : L2.St} {H : Hp} {Q : VK} (h : lft c W (mChain f f' ma mb md) σ H Q) : tChain r r' (lft c W ma) (lft c W mb) (lft c W md) σ H Q := by
    obtain ⟨g, ad, mu, hS, hT, o⟩ := h
    refine ⟨g, ad, mu, hS, hT, OutG.imp (OutG.bd (rel := An c) o) fun v H1 ⟨ad1, mu1, x, ch1, t1, dx, o1⟩ => ?_⟩
    refine ⟨g, ad1, mu1, hS.ch ch1, t1, OutG.imp (OutG.bd (rel := An c) o1) fun w H2 ⟨ad2, mu2, y, ch2, t2, dy, o2⟩ => ?_⟩
    split at o2
    · rename_i hz
      refine hf H2 ad2 mu2 v w x y _ t2 (dx.ch ch2) dy hz _ fun u H3 e du => ?_
      cases du
      refine ⟨true, rfl, iteT ⟨g, ad2, mu2, (hS.ch ch1).ch (ch2.trans (.ex e)), t2.ex e, OutG.imp (OutG.bd (rel := An c) (OutG.mv (.ex e) o2)) fun w' H4 ⟨ad4, mu4, z, ch4, t4, dz, o4⟩ => ?_⟩⟩
      cases hz' : f' mu4 y z with
      | none => rw [hz'] at o4; exact o4.elim
      | some u' =>
        rw [hz'] at o4
        exact hf' H4 ad4 mu4 w w' y z u' t4 (dy.ch ((Ch.ex e).trans ch4)) dz hz' Q fun u H' e' d => o4 u H' ad4 (.ex e') (t4.ex e') (.d d)
    · rename_i hz
      refine hf H2 ad2 mu2 v w x y _ t2 (dx.ch ch2) dy hz _ fun u H3 e du => ?_
      cases du
      exact ⟨false, rfl, iteF (o2 _ H3 ad2 (.ex e) (t2.ex e) (.d (.bl false)))⟩
    · exact o2.elim
theorem de_chain {op op' : CmpOp} {r r' : R2} {f f' : Mu → Ar → Ar → Option D} {a b d : Expr} {ma mb md : ME} {pos : Pos} (ho : OpR X (compareOp op) r) (hf : OpD c r f) (ho' : OpR X (compareOp op') r') (hf' : OpD c r' f') (ha : PE X a (lft c W ma)) (hb : PE X b (lft c W mb)) (hd : PE X d (lft c W md))
    (hm : lastMarks [op, op'] [b, d] = false := by with_unfolding_all rfl) : PE X (.Compare a [op, op'] [b, d] pos) (lft c W (mChain f f' ma mb md)) :=
  (pe_chain ho ho' ha hb hd hm).weak fun σ H Q h => chain_run hf hf' h
end
end Dw
namespace Dw
open PySem PySem.Spec L2
section
variable {X : Cx} {c : Ct} {W : WX}

/-! ### arguments, displays -/
def mNil : MA := fun _ mu => .ok [] mu
def mCons (a : ME) (r : MA) : MA := fun g mu => (a g mu).bd fun x mu1 => (r g mu1).bd fun xs mu2 => .ok (x :: xs) mu2
theorem da_nil : PA X [] (lftA c W mNil) := pa_nil.weak fun σ H Q ⟨g, ad, mu, hS, hT, o⟩ => o [] H ad (.refl _ _) hT .nil
theorem da_cons {e : Expr} {es : List Expr} {me : ME} {mr : MA} (ha : PE X e (lft c W me)) (hr : PA X es (lftA c W mr)) (hs : starEach (e :: es) X.env = (false, eval e X.env) :: starEach es X.env := by rfl) : PA X (e :: es) (lftA c W (mCons me mr)) :=
  (pa_cons ha hr hs).weak fun σ H Q ⟨g, ad, mu, hS, hT, o⟩ => by
    refine ⟨g, ad, mu, hS, hT, OutG.imp (OutG.bd (rel := An c) o) fun v H1 ⟨ad1, mu1, x, ch1, t1, dx, o1⟩ => ?_⟩
    refine ⟨g, ad1, mu1, hS.ch ch1, t1, OutG.imp (OutG.bd (rel := Ans c) o1) fun vs H2 ⟨ad2, mu2, xs, ch2, t2, dxs, o2⟩ => ?_⟩
    exact o2 (v :: vs) H2 ad2 (.refl _ _) t2 (.cons (dx.ch ch2) dxs)
def asD : List Ar → Option (List D)
  | [] => some []
  | .d x :: r => match asD r with
    | some xs => some (x :: xs)
    | none => none
  | _ :: _ => none
theorem asD_ok {H : Hp} {ad : List Addr} : ∀ {xs : List Ar} {vs : List V} {ds : List D}, Ans c H ad vs xs → asD xs = some ds → Dns c H ad vs ds
  | [], _, _, .nil, e => by cases e; exact .nil
  | .d x :: r, _, _, .cons (.d a) t, e => by
    unfold asD at e
    split at e
    · rename_i xs he
      cases e
      exact .cons a (asD_ok t he)
    · cases e
  | .cel i :: r, _, _, .cons _ t, e => by cases e
  | .scr i :: r, _, _, .cons _ t, e => by cases e
  | .exn _ _ :: r, _, _, .cons _ t, e => by cases e
def mTup (a : MA) : ME := fun g mu => (a g mu).bd fun xs mu1 => match asD xs with
  | some ds => if ds.length ≤ 16777216 then .ok (.d (.tup ds)) mu1 else .stuck
  | none => .stuck
def mLst (a : MA) : ME := fun g mu => (a g mu).bd fun xs mu1 => match asD xs with
  | some ds => if ds.length ≤ 16777216 then .ok (.d (.lst ds)) mu1 else .stuck
  | none => .stuck
/-- a list that will be changed in place -/
def mLstC (a : MA) : ME := fun g mu => (a g mu).bd fun xs mu1 => match asD xs with
  | some ds => if ds.length ≤ 16777216 then .ok (.cel mu1.length) (mu1 ++ [.lst ds]) else .stuck
  | none => .stuck
theorem Sto.free {H : Hp} {ad : List Addr} {m : Mu} {p : Addr} (s : Sto c H ad m) (h : H p = none) : p ∉ ad := fun z => by
  obtain ⟨i, hi⟩ := List.getElem?_of_mem z
  obtain ⟨cl', _, y⟩ := s.cl hi
  obtain ⟨o', e⟩ := y.got
  rw [h] at e; cases e
theorem line : sizeLine = 16777216 := sizeLine_eq
theorem new_tup {H : Hp} {ad : List Addr} {mu : Mu} {vs : List V} {ds : List D} {p : Addr} (s : Sto c H ad mu) (h : H p = none) (t : Dns c H ad vs ds) : Dn c (upd H p (.tup vs)) ad (.ref p) (.tup ds) :=
  .tup (s.free h) (.inl upd_same) (t.ch (.ex (.new h)))
theorem new_lst {H : Hp} {ad : List Addr} {mu : Mu} {vs : List V} {ds : List D} {p : Addr} (s : Sto c H ad mu) (h : H p = none) (t : Dns c H ad vs ds) : Dn c (upd H p (.lst vs)) ad (.ref p) (.lst ds) :=
  .lst (s.free h) upd_same (t.ch (.ex (.new h)))
theorem new_cell {H : Hp} {ad : List Addr} {mu : Mu} {vs : List V} {ds : List D} {p : Addr} (s : Sto c H ad mu) (h : H p = none) (t : Dns c H ad vs ds) : Sto c (upd H p (.lst vs)) (ad ++ [p]) (mu ++ [.lst ds]) ∧ An c (upd H p (.lst vs)) (ad ++ [p]) (.ref p) (.cel mu.length) :=
  ⟨s.new h ⟨vs, upd_same, t.ch (.new h)⟩, .cel (by rw [← s.len]; simp)⟩
theorem de_tup {es : List Expr} {x1 : Nat} {pos : Pos} {ma : MA} (h : PA X es (lftA c W ma)) : PE X (.Tuple es x1 pos) (lft c W (mTup ma)) :=
  (pe_tup h).weak fun σ H Q ⟨g, ad, mu, hS, hT, o⟩ => by
    refine ⟨g, ad, mu, hS, hT, OutG.imp (OutG.bd (rel := Ans c) o) fun vs H1 ⟨ad1, mu1, xs, ch1, t1, dx, o1⟩ => ?_⟩
    split at o1
    · rename_i ds hd
      split at o1
      · rename_i hl
        have t := asD_ok dx hd
        refine ⟨by rw [t.length, line]; exact hl, fun p hp => o1 _ _ ad1 (.ex (.new hp)) (t1.ex (.new hp)) (.d (new_tup t1 hp t))⟩
      · exact o1.elim
    · exact o1.elim
theorem de_lst {es : List Expr} {pos : Pos} {ma : MA} (h : PA X es (lftA c W ma)) : PE X (.List es pos) (lft c W (mLst ma)) :=
  (pe_lst h).weak fun σ H Q ⟨g, ad, mu, hS, hT, o⟩ => by
    refine ⟨g, ad, mu, hS, hT, OutG.imp (OutG.bd (rel := Ans c) o) fun vs H1 ⟨ad1, mu1, xs, ch1, t1, dx, o1⟩ => ?_⟩
    split at o1
    · rename_i ds hd
      split at o1
      · rename_i hl
        have t := asD_ok dx hd
        refine ⟨by rw [t.length, line]; exact hl, fun p hp => o1 _ _ ad1 (.ex (.new hp)) (t1.ex (.new hp)) (.d (new_lst t1 hp t))⟩
      · exact o1.elim
    · exact o1.elim
theorem de_lstC {es : List Expr} {pos : Pos} {ma : MA} (h : PA X es (lftA c W ma)) : PE X (.List es pos) (lft c W (mLstC ma)) :=
  (pe_lst h).weak fun σ H Q ⟨g, ad, mu, hS, hT, o⟩ => by
    refine ⟨g, ad, mu, hS, hT, OutG.imp (OutG.bd (rel := Ans c) o) fun vs H1 ⟨ad1, mu1, xs, ch1, t1, dx, o1⟩ => ?_⟩
    split at o1
    · rename_i ds hd
      split at o1
      · rename_i hl
        have t := asD_ok dx hd
        refine ⟨by rw [t.length, line]; exact hl, fun p hp => o1 _ _ (ad1 ++ [p]) (.new hp) (new_cell t1 hp t).1 (new_cell t1 hp t).2⟩
      · exact o1.elim
    · exact o1.elim

/-! ### tests -/
def mB (m : ME) : MT := fun g mu => (m g mu).bd fun x mu1 => match x with
  | .d (.bl b) => .ok b mu1
  | _ => .stuck
theorem tB_run {m : ME} {σ : L2.St} {H : Hp} {Q : Bool → Hp → Prop} (h : lftT c W (mB m) σ H Q) : lft c W m σ H fun x H' => ∃ k, x = .bl k ∧ Q k H' := by
  obtain ⟨g, ad, mu, hS, hT, o⟩ := h
  refine ⟨g, ad, mu, hS, hT, OutG.imp (OutG.bd (rel := An c) o) fun v H1 ⟨ad1, mu1, x, ch1, t1, dx, o1⟩ => ?_⟩
  cases dx with
  | d a =>
    cases a with
    | bl b => exact ⟨b, rfl, o1 b H1 ad1 (.refl _ _) t1 rfl⟩
    | non => exact o1.elim
    | int i => exact o1.elim
    | str x => exact o1.elim
    | tup _ _ _ => exact o1.elim
    | ktup _ _ => exact o1.elim
    | lst _ _ _ => exact o1.elim
    | ins _ _ _ _ _ => exact o1.elim
  | cel e => exact o1.elim
  | scr _ _ _ => exact o1.elim
  | kscr _ => exact o1.elim
  | exn _ _ _ _ _ => exact o1.elim
/-- an expression with a bool, as a test -/
theorem dt_val {e : Expr} {m : ME} (h : PE X e (lft c W m)) (he : ∀ whole, isTrue e X.env whole = (do let v ← whole; standAt e.pos; holding [v] (truthy v)) := by intro _; rfl) : PT X e (lftT c W (mB m)) :=
  (pt_val h he).weak fun σ H Q q => tB_run q
theorem dt_cmp {op : CmpOp} {r : R2} {f : Mu → Ar → Ar → Option D} {a b : Expr} {ma mb : ME} {pos : Pos} (ho : OpR X (compareOp op) r) (hf : OpD c r f) (hm : behindInMarks op b = false) (ha : PE X a (lft c W ma)) (hb : PE X b (lft c W mb)) : PT X (.Compare a [op] [b] pos) (lftT c W (mB (mBin f ma mb))) :=
  (pt_cmpR ho ha hb hm).weak fun σ H Q q => by
    have h := tB_run q
    exact two_run hf h
theorem dt_chain {op op' : CmpOp} {r r' : R2} {f f' : Mu → Ar → Ar → Option D} {a b d : Expr} {ma mb md : ME} {pos : Pos} (ho : OpR X (compareOp op) r) (hf : OpD c r f) (ho' : OpR X (compareOp op') r') (hf' : OpD c r' f') (ha : PE X a (lft c W ma)) (hb : PE X b (lft c W mb)) (hd : PE X d (lft c W md))
    (hm : lastMarks [op, op'] [b, d] = false := by with_unfolding_all rfl) : PT X (.Compare a [op, op'] [b, d] pos) (lftT c W (mB (mChain f f' ma mb md))) :=
  (pt_chain ho ho' ha hb hd hm).weak fun σ H Q q => by
    have h := tB_run q
    exact chain_run hf hf' h
def mAnd (a b : MT) : MT := fun g mu => (a g mu).bd fun x mu1 => if x then b g mu1 else .ok false mu1
def mOr (a b : MT) : MT := fun g mu => (a g mu).bd fun x mu1 => if x then .ok true mu1 else b g mu1
def mNot (a : MT) : MT := fun g mu => (a g mu).bd fun x mu1 => .ok (!x) mu1
theorem dw_and1 {a : Expr} {ma : MT} {pos : Pos} (h : PT X a (lftT c W ma)) : PW X (.BoolOp .And [a] pos) (lftT c W ma) := pw_and1 h
theorem dw_or1 {a : Expr} {ma : MT} {pos : Pos} (h : PT X a (lftT c W ma)) : PW X (.BoolOp .Or [a] pos) (lftT c W ma) := pw_or1 h
theorem dw_and {a b : Expr} {rest : List Expr} {ma mb : MT} {pos : Pos} (ha : PT X a (lftT c W ma)) (hb : PW X (.BoolOp .And (b :: rest) pos) (lftT c W mb)) : PW X (.BoolOp .And (a :: b :: rest) pos) (lftT c W (mAnd ma mb)) :=
  (pw_and ha hb).weak fun σ H Q ⟨g, ad, mu, hS, hT, o⟩ => by
    refine ⟨g, ad, mu, hS, hT, OutG.imp (OutG.bd (rel := relB) o) fun b H1 ⟨ad1, mu1, x, ch1, t1, e, o1⟩ => ?_⟩
    cases e
    cases b with
    | true => exact iteT ⟨g, ad1, mu1, hS.ch ch1, t1, o1⟩
    | false => exact iteF (o1 false H1 ad1 (.refl _ _) t1 rfl)
theorem dw_or {a b : Expr} {rest : List Expr} {ma mb : MT} {pos : Pos} (ha : PT X a (lftT c W ma)) (hb : PW X (.BoolOp .Or (b :: rest) pos) (lftT c W mb)) : PW X (.BoolOp .Or (a :: b :: rest) pos) (lftT c W (mOr ma mb)) :=
  (pw_or ha hb).weak fun σ H Q ⟨g, ad, mu, hS, hT, o⟩ => by
    refine ⟨g, ad, mu, hS, hT, OutG.imp (OutG.bd (rel := relB) o) fun b H1 ⟨ad1, mu1, x, ch1, t1, e, o1⟩ => ?_⟩
    cases e
    cases b with
    | false => exact iteF ⟨g, ad1, mu1, hS.ch ch1, t1, o1⟩
    | true => exact iteT (o1 true H1 ad1 (.refl _ _) t1 rfl)
theorem dt_not {a : Expr} {ma : MT} {pos : Pos} (h : PT X a (lftT c W ma)) : PT X (.UnaryOp .Not a pos) (lftT c W (mNot ma)) :=
  (pt_not h).weak fun σ H Q ⟨g, ad, mu, hS, hT, o⟩ => by
    refine ⟨g, ad, mu, hS, hT, OutG.imp (OutG.bd (rel := relB) o) fun b H1 ⟨ad1, mu1, x, ch1, t1, e, o1⟩ => ?_⟩
    cases e
    exact o1 _ H1 ad1 (.refl _ _) t1 rfl
/-! .. as values -/
def mV (a : MT) : ME := fun g mu => (a g mu).bd fun x mu1 => .ok (.d (.bl x)) mu1
theorem relB_dn {H : Hp} {ad : List Addr} {b : Bool} : An c H ad (.bl b) (.d (.bl b)) := .d (.bl b)
theorem dv_run {m : MT} {m' : ME} (hm : ∀ g mu, mB m' g mu = m g mu) {σ : L2.St} {H : Hp} {Q : VK} (h : lft c W (mV m) σ H Q) : lft c W m' σ H fun x H' => ∃ k, x = .bl k ∧ Q (.bl k) H' := by
  obtain ⟨g, ad, mu, hS, hT, o⟩ := h
  refine tB_run (Q := fun k H' => Q (.bl k) H') ⟨g, ad, mu, hS, hT, ?_⟩
  rw [hm]
  exact OutG.imp (OutG.bd (rel := relB) o) fun b H1 ⟨ad1, mu1, x, ch1, t1, e, o1⟩ => by
    cases e
    exact o1 _ H1 ad1 (.refl _ _) t1 relB_dn
def mAndV (a b : ME) : ME := fun g mu => (a g mu).bd fun x mu1 => match x with
  | .d (.bl true) => b g mu1
  | .d (.bl false) => .ok (.d (.bl false)) mu1
  | _ => .stuck
def mOrV (a b : ME) : ME := fun g mu => (a g mu).bd fun x mu1 => match x with
  | .d (.bl false) => b g mu1
  | .d (.bl true) => .ok (.d (.bl true)) mu1
  | _ => .stuck
def mNotV (a : ME) : ME := fun g mu => (a g mu).bd fun x mu1 => match x with
  | .d (.bl b) => .ok (.d (.bl (!b))) mu1
  | _ => .stuck
theorem de_one {op : BoolOp} {a : Expr} {m : ME} {pos : Pos} (h : PE X a (lft c W m)) : PE X (.BoolOp op [a] pos) (lft c W m) := pe_one h
/-- a bool in the hand -/
theorem An.bl_inv {H : Hp} {ad : List Addr} {v : V} {x : Ar} (h : An c H ad v x) (hb : ∀ b, x ≠ .d (.bl b)) : True := trivial
theorem bl_of {H : Hp} {ad : List Addr} {v : V} {b : Bool} (h : An c H ad v (.d (.bl b))) : v = .bl b := by
  cases h with
  | d a => cases a; rfl
theorem de_and {a b : Expr} {rest : List Expr} {ma mb : ME} {pos : Pos} (ha : PE X a (lft c W ma)) (hb : PE X (.BoolOp .And (b :: rest) pos) (lft c W mb)) : PE X (.BoolOp .And (a :: b :: rest) pos) (lft c W (mAndV ma mb)) :=
  (pe_and ha hb).weak fun σ H Q ⟨g, ad, mu, hS, hT, o⟩ => by
    refine ⟨g, ad, mu, hS, hT, OutG.imp (OutG.bd (rel := An c) o) fun v H1 ⟨ad1, mu1, x, ch1, t1, dx, o1⟩ => ?_⟩
    split at o1
    · have e := bl_of dx
      subst e
      exact ⟨true, rfl, iteT ⟨g, ad1, mu1, hS.ch ch1, t1, o1⟩⟩
    · have e := bl_of dx
      subst e
      exact ⟨false, rfl, iteF (o1 _ H1 ad1 (.refl _ _) t1 relB_dn)⟩
    · exact o1.elim
theorem de_or {a b : Expr} {rest : List Expr} {ma mb : ME} {pos : Pos} (ha : PE X a (lft c W ma)) (hb : PE X (.BoolOp .Or (b :: rest) pos) (lft c W mb)) : PE X (.BoolOp .Or (a :: b :: rest) pos) (lft c W (mOrV ma mb)) :=
  (pe_or ha hb).weak fun σ H Q ⟨g, ad, mu, hS, hT, o⟩ => by
    refine ⟨g, ad, mu, hS, hT, OutG.imp (OutG.bd (rel := An c) o) fun v H1 ⟨ad1, mu1, x, ch1, t1, dx, o1⟩ => ?_⟩
    split at o1
    · have e := bl_of dx
      subst e
      exact ⟨false, rfl, iteF ⟨g, ad1, mu1, hS.ch ch1, t1, o1⟩⟩
    · have e := bl_of dx
      subst e
      exact ⟨true, rfl, iteT (o1 _ H1 ad1 (.refl _ _) t1 relB_dn)⟩
    · exact o1.elim
theorem de_not {a : Expr} {ma : ME} {pos : Pos} (ha : PE X a (lft c W ma)) : PE X (.UnaryOp .Not a pos) (lft c W (mNotV ma)) :=
  (pe_not ha).weak fun σ H Q ⟨g, ad, mu, hS, hT, o⟩ => by
    refine ⟨g, ad, mu, hS, hT, OutG.imp (OutG.bd (rel := An c) o) fun v H1 ⟨ad1, mu1, x, ch1, t1, dx, o1⟩ => ?_⟩
    split at o1
    · have e := bl_of dx
      subst e
      exact ⟨_, rfl, o1 _ H1 ad1 (.refl _ _) t1 relB_dn⟩
    · exact o1.elim
def mIf (t : MT) (a b : ME) : ME := fun g mu => (t g mu).bd fun x mu1 => if x then a g mu1 else b g mu1
theorem de_if {t a b : Expr} {mt : MT} {ma mb : ME} {pos : Pos} (ht : PT X t (lftT c W mt)) (ha : PE X a (lft c W ma)) (hb : PE X b (lft c W mb)) : PE X (.IfExp t a b pos) (lft c W (mIf mt ma mb)) :=
  (pe_ifExp ht ha hb).weak fun σ H Q ⟨g, ad, mu, hS, hT, o⟩ => by
    refine ⟨g, ad, mu, hS, hT, OutG.imp (OutG.bd (rel := relB) o) fun b H1 ⟨ad1, mu1, x, ch1, t1, e, o1⟩ => ?_⟩
    cases e
    cases b with
    | true => exact iteT ⟨g, ad1, mu1, hS.ch ch1, t1, o1⟩
    | false => exact iteF ⟨g, ad1, mu1, hS.ch ch1, t1, o1⟩

/-! ### calls of built-ins -/
def mCB (f : Mu → List Ar → Option D) (a : MA) : ME := fun g mu => (a g mu).bd fun xs mu1 => match f mu1 xs with
  | some z => .ok (.d z) mu1
  | none => .stuck
def CallD (c : Ct) (r : List V → Hp → VK → Prop) (f : Mu → List Ar → Option D) : Prop :=
  ∀ (H : Hp) (ad : List Addr) (mu : Mu) (vs : List V) (xs : List Ar) (z : D), Sto c H ad mu → Ans c H ad vs xs → f mu xs = some z → ∀ Q : VK, (∀ u H', Ex H H' → Dn c H' ad u z → Q u H') → r vs H Q
theorem cb_run {f : Mu → List Ar → Option D} {r : List V → Hp → VK → Prop} {ma : MA} (hf : CallD c r f) {σ : L2.St} {H : Hp} {Q : VK} (h : lft c W (mCB f ma) σ H Q) : tCB r (lftA c W ma) σ H Q := by
  obtain ⟨g, ad, mu, hS, hT, o⟩ := h
  refine ⟨g, ad, mu, hS, hT, OutG.imp (OutG.bd (rel := Ans c) o) fun vs H1 ⟨ad1, mu1, xs, ch1, t1, dx, o1⟩ => ?_⟩
  cases hz : f mu1 xs with
  | none => rw [hz] at o1; exact o1.elim
  | some z =>
    rw [hz] at o1
    exact hf H1 ad1 mu1 vs xs z t1 dx hz Q fun u H' e d => o1 u H' ad1 (.ex e) (t1.ex e) (.d d)
theorem de_cb {x : Str} {p pos : Pos} {e : Expr} {es : List Expr} {id : String} {r : List V → Hp → VK → Prop} {f : Mu → List Ar → Option D} {ma : MA} (hc : CallR X (.builtin id) r) (hf : CallD c r f) (hg : Gl X x) (hm : X.mg x = none) (hv : bootBuiltins x = some (.builtin id)) (ha : PA X (e :: es) (lftA c W ma)) (hn : x ≠ "__name__" := by decide) (hdb : (x == ("__debug__" : Str)) = false := by decide)
    (he : starEach (e :: es) X.env = (false, eval e X.env) :: starEach es X.env := by rfl) (hpl : (backTo pos (starEach es X.env)).any (·.1) = false := by rfl) : PE X (.Call (.Name x p) (e :: es) [] pos) (lft c W (mCB f ma)) :=
  (pe_callB hc hg hm hv ha hn hdb he hpl).weak fun σ H Q h => cb_run hf h
theorem de_ct {x : Str} {p pos : Pos} {e : Expr} {es : List Expr} {T : String} {r : List V → Hp → VK → Prop} {f : Mu → List Ar → Option D} {ma : MA} (hc : CallR X (.type T) r) (hf : CallD c r f) (hg : Gl X x) (hm : X.mg x = none) (hv : bootBuiltins x = some (.type T)) (ha : PA X (e :: es) (lftA c W ma)) (hn : x ≠ "__name__" := by decide) (hdb : (x == ("__debug__" : Str)) = false := by decide)
    (he : starEach (e :: es) X.env = (false, eval e X.env) :: starEach es X.env := by rfl) (hpl : (backTo pos (starEach es X.env)).any (·.1) = false := by rfl) : PE X (.Call (.Name x p) (e :: es) [] pos) (lft c W (mCB f ma)) :=
  (pe_callTy hc hg hm hv ha hn hdb he hpl).weak fun σ H Q h => cb_run hf h

/-! ### calls of defs -/
def spOf (c : Ct) (n : Nat) (f : List Ar → Mu → R Ar) : Sp := fun vs H Q E => vs.length = n ∧ ∃ xs ad mu, Ans c H ad vs xs ∧ Sto c H ad mu ∧ OutG c (fun cls d _ H' => E cls d H') [] H ad (An c) (f xs mu) Q
theorem OutG.wis {α β : Type} {W W' : WX} {σ σ' : L2.St} {H : Hp} {ad : List Addr} {rel : Hp → List Addr → β → α → Prop} {r : R α} {Q : β → Hp → Prop} (o : OutG c W σ H ad rel r Q) (h : ∀ cls d H, W cls d σ H → W' cls d σ' H) : OutG c W' σ' H ad rel r Q := by
  cases r with
  | ok x m => exact o
  | exc C ks ds m => exact fun Ca x fs H' ad' a1 a2 a3 a4 a5 a6 a7 => h _ _ _ (o Ca x fs H' ad' a1 a2 a3 a4 a5 a6 a7)
  | stuck => exact o
def mCall (n : Nat) (f : List Ar → Mu → R Ar) (a : MA) : ME := fun g mu => (a g mu).bd fun xs mu1 => if xs.length = n then f xs mu1 else .stuck
theorem de_call {k n : Nat} {f : Addr} {fd : FuncData} {ps : List Str} {F : List Ar → Mu → R Ar} {x : Str} {p pos : Pos} {e : Expr} {es : List Expr} {ma : MA} (G : FnOk X.prog X.w X.K X.mg X.base (L2.CX X.prog X.w) k f fd ps (spOf c n F)) (hr : Room k X.A) (hg : Gl X x) (hm : X.mg x = some (.ref f)) (hk : PySem.W.keepIn X.K (.ref f) = true) (hb : Binds X.K fd ps []) (tk : Takes X W)
    (ha : PA X (e :: es) (lftA c W ma)) (hdb : (x == ("__debug__" : Str)) = false := by decide) (he : starEach (e :: es) X.env = (false, eval e X.env) :: starEach es X.env := by rfl) (hpl : (backTo pos (starEach es X.env)).any (·.1) = false := by rfl) :
    PE X (.Call (.Name x p) (e :: es) [] pos) (lft c W (mCall n F ma)) :=
  (pe_callS (E := WE W) G hr hg hm hk hb (fun σ => passAt tk σ) ha hdb he hpl).weak fun σ H Q ⟨g, ad, mu, hS, hT, o⟩ => by
    refine ⟨g, ad, mu, hS, hT, OutG.imp (OutG.bd (rel := Ans c) o) fun vs H1 ⟨ad1, mu1, xs, ch1, t1, dx, o1⟩ => ?_⟩
    split at o1
    · rename_i hl
      exact ⟨dx.length.trans hl, xs, ad1, mu1, dx, t1, OutG.wis o1 fun cls d H' h => h⟩
    · exact o1.elim
end

/-! ### statements -/
def OutS (c : Ct) (W : WX) (H : Hp) (ad : List Addr) (r : RS) (D : Ends) : Prop :=
  match r with
  | .nx g m => ∀ σ' H' ad', Ch H ad H' ad' → Sl c H' ad' σ' g → Sto c H' ad' m → D.nx σ' H'
  | .rt a m => ∀ v H' ad', Ch H ad H' ad' → Sto c H' ad' m → An c H' ad' v a → D.rt v H'
  | .bk g m => ∀ σ' H' ad', Ch H ad H' ad' → Sl c H' ad' σ' g → Sto c H' ad' m → D.bk σ' H'
  | .ct g m => ∀ σ' H' ad', Ch H ad H' ad' → Sl c H' ad' σ' g → Sto c H' ad' m → D.ct σ' H'
  | .exc C ks ds g m => ∀ Ca x fs σ' H' ad', c.mg C = some (.ref Ca) → Ch H ad H' ad' → Sl c H' ad' σ' g → Sto c H' ad' m → x ∉ ad' → H' x = some (.xd fs) → fs.map (·.1) = ks → Dns c H' ad' (fs.map (·.2)) ds → W (.ref Ca) (some x) σ' H'
  | .stuck => False
theorem OutS.mv {c : Ct} {W : WX} {H H1 : Hp} {ad ad1 : List Addr} {r : RS} {D : Ends} (h : Ch H ad H1 ad1) (o : OutS c W H ad r D) : OutS c W H1 ad1 r D := by
  cases r with
  | nx g m => exact fun σ' H' ad' a => o σ' H' ad' (h.trans a)
  | rt x m => exact fun v H' ad' a => o v H' ad' (h.trans a)
  | bk g m => exact fun σ' H' ad' a => o σ' H' ad' (h.trans a)
  | ct g m => exact fun σ' H' ad' a => o σ' H' ad' (h.trans a)
  | exc C ks ds g m => exact fun Ca x fs σ' H' ad' e a => o Ca x fs σ' H' ad' e (h.trans a)
  | stuck => exact o
def lftS (c : Ct) (W : WX) (m : MS) : TS := fun D σ H => ∃ g ad mu, Sl c H ad σ g ∧ Sto c H ad mu ∧ OutS c W H ad (m g mu) D
/-- an expression's result in a statement -/
def R.st {α : Type} (r : R α) (g : Gm) (k : α → Mu → RS) : RS :=
  match r with
  | .ok a m => k a m
  | .exc C ks ds m => .exc C ks ds g m
  | .stuck => .stuck
theorem OutS.bd {α β : Type} {c : Ct} {W : WX} {σ : L2.St} {H : Hp} {ad : List Addr} {rel : Hp → List Addr → β → α → Prop} {r : R α} {g : Gm} {k : α → Mu → RS} {D : Ends} (hS : Sl c H ad σ g) (o : OutS c W H ad (r.st g k) D) :
    OutG c W σ H ad rel r (fun v H' => ∃ ad' m x, Ch H ad H' ad' ∧ Sto c H' ad' m ∧ rel H' ad' v x ∧ OutS c W H' ad' (k x m) D) := by
  cases r with
  | ok x m => exact fun v H' ad' a b d => ⟨ad', m, x, a, b, d, OutS.mv a o⟩
  | exc C ks ds m => exact fun Ca x fs H' ad' e a b n q1 q2 q3 => o Ca x fs σ H' ad' e a (hS.ch a) b n q1 q2 q3
  | stuck => exact o
section
variable {X : Cx} {c : Ct} {W : WX}
def mSkip : MS := fun g mu => .nx g mu
def mSeq (a b : MS) : MS := fun g mu => match a g mu with
  | .nx g' m' => b g' m'
  | .rt x m => .rt x m
  | .bk g m => .bk g m
  | .ct g m => .ct g m
  | .exc C ks ds g m => .exc C ks ds g m
  | .stuck => .stuck
theorem dss_nil : PSs X [] (lftS c W mSkip) := pss_nil.weak fun D σ H ⟨g, ad, mu, hS, hT, o⟩ => o σ H ad (.refl _ _) hS hT
theorem dss_one {st : Stmt} {m : MS} (h : PS X st (lftS c W m)) : PSs X [st] (lftS c W m) := pss_one h
theorem dss_cons {st : Stmt} {rest : List Stmt} {m m' : MS} (h1 : PS X st (lftS c W m)) (h2 : PSs X rest (lftS c W m')) : PSs X (st :: rest) (lftS c W (mSeq m m')) :=
  (pss_cons h1 h2).weak fun D σ H ⟨g, ad, mu, hS, hT, o⟩ => by
    refine ⟨g, ad, mu, hS, hT, ?_⟩
    have o' : OutS c W H ad (match m g mu with
      | .nx g' m'' => m' g' m''
      | .rt x m => .rt x m
      | .bk g m => .bk g m
      | .ct g m => .ct g m
      | .exc C ks ds g m => .exc C ks ds g m
      | .stuck => .stuck) D := o
    cases hq : m g mu with
    | nx g' m'' =>
      rw [hq] at o'
      exact fun σ' H' ad' a b d => ⟨g', ad', m'', b, d, OutS.mv a o'⟩
    | rt x m => rw [hq] at o'; exact o'
    | bk g m => rw [hq] at o'; exact o'
    | ct g m => rw [hq] at o'; exact o'
    | exc C ks ds g m => rw [hq] at o'; exact o'
    | stuck => rw [hq] at o'; exact o'
theorem ds_pass {pos : Pos} : PS X (.Pass pos) (lftS c W mSkip) := ps_pass.weak fun D σ H ⟨g, ad, mu, hS, hT, o⟩ => o σ H ad (.refl _ _) hS hT
def mBreak : MS := fun g mu => .bk g mu
def mCont : MS := fun g mu => .ct g mu
theorem ds_break {pos : Pos} : PS X (.Break pos) (lftS c W mBreak) := ps_break.weak fun D σ H ⟨g, ad, mu, hS, hT, o⟩ => o σ H ad (.refl _ _) hS hT
theorem ds_continue {pos : Pos} : PS X (.Continue pos) (lftS c W mCont) := ps_continue.weak fun D σ H ⟨g, ad, mu, hS, hT, o⟩ => o σ H ad (.refl _ _) hS hT
def mRet (e : ME) : MS := fun g mu => (e g mu).st g fun x m => .rt x m
theorem ds_ret {e : Expr} {m : ME} {pos : Pos} (h : PE X e (lft c W m)) : PS X (.Return (some e) pos) (lftS c W (mRet m)) :=
  (ps_ret h).weak fun D σ H ⟨g, ad, mu, hS, hT, o⟩ =>
    ⟨g, ad, mu, hS, hT, OutG.imp (OutS.bd (rel := An c) hS o) fun v H1 ⟨ad1, mu1, x, ch1, t1, dx, o1⟩ => o1 v H1 ad1 (.refl _ _) t1 dx⟩
def mRetN : MS := fun _ mu => .rt (.d .non) mu
theorem ds_retN {pos : Pos} : PS X (.Return none pos) (lftS c W mRetN) := ps_retN.weak fun D σ H ⟨g, ad, mu, hS, hT, o⟩ => o .non H ad (.refl _ _) hT (.d .non)
def mDrop (e : ME) : MS := fun g mu => (e g mu).st g fun _ m => .nx g m
theorem ds_expr {e : Expr} {m : ME} {pos : Pos} (h : PE X e (lft c W m)) (hs : swapsWith e none pos.line X.env = pure false := by rfl) : PS X (.Expr e pos) (lftS c W (mDrop m)) :=
  (ps_expr h hs).weak fun D σ H ⟨g, ad, mu, hS, hT, o⟩ =>
    ⟨g, ad, mu, hS, hT, OutG.imp (OutS.bd (rel := An c) hS o) fun v H1 ⟨ad1, mu1, x, ch1, t1, dx, o1⟩ => o1 σ H1 ad1 (.refl _ _) (hS.ch ch1) t1⟩
def mIfS (t : MT) (a b : MS) : MS := fun g mu => (t g mu).st g fun x m => if x then a g m else b g m
theorem ds_if {t : Expr} {a b : List Stmt} {mt : MT} {ma mb : MS} {pos : Pos} (ht : PT X t (lftT c W mt)) (ha : PSs X a (lftS c W ma)) (hb : PSs X b (lftS c W mb)) : PS X (.If t a b pos) (lftS c W (mIfS mt ma mb)) :=
  (ps_if ht ha hb).weak fun D σ H ⟨g, ad, mu, hS, hT, o⟩ => by
    refine ⟨g, ad, mu, hS, hT, OutG.imp (OutS.bd (rel := relB) hS o) fun b H1 ⟨ad1, mu1, x, ch1, t1, e, o1⟩ => ?_⟩
    cases e
    cases b with
    | true => exact iteT ⟨g, ad1, mu1, hS.ch ch1, t1, o1⟩
    | false => exact iteF ⟨g, ad1, mu1, hS.ch ch1, t1, o1⟩

/-! ### targets -/
abbrev MG := Ar → Gm → Option Gm
/-- what a target may do to other slots: anything (a statement's), or nothing but to its block's names -/
def wAny : L2.St → L2.St → Prop := fun _ _ => True
def wBlk (vs : List Nat) : L2.St → L2.St → Prop := fun σ σ1 => L2.wipe σ1 vs = L2.wipe σ vs
class WOk (wp : L2.St → L2.St → Prop) : Prop where
  refl : ∀ σ, wp σ σ
  trans : ∀ σ σ1 σ2, wp σ σ1 → wp σ1 σ2 → wp σ σ2
instance : WOk wAny := ⟨fun _ => trivial, fun _ _ _ _ _ => trivial⟩
instance (vs : List Nat) : WOk (wBlk vs) := ⟨fun _ => rfl, fun _ _ _ a b => Eq.trans b a⟩
/-- a target does what mg does -/
def GD (c : Ct) (wp : L2.St → L2.St → Prop) (t : TG) (mg : MG) : Prop :=
  ∀ (H : Hp) (ad : List Addr) (v : V) (x : Ar) (σ : L2.St) (g g1 : Gm), An c H ad v x → Sl c H ad σ g → mg x g = some g1 → ∀ Q : L2.St → Hp → Prop, (∀ σ1, Sl c H ad σ1 g1 → wp σ σ1 → Q σ1 H) → t v σ H Q
theorem wipe_get {σ : L2.St} : ∀ {vs : List Nat} {i : Nat}, (L2.wipe σ vs)[i]? = if i ∈ vs then (σ[i]?).map (fun _ => none) else σ[i]?
  | [], i => by simp [L2.wipe]
  | v :: vs, i => by
    unfold L2.wipe
    by_cases h : v = i
    · subst h
      rw [if_pos List.mem_cons_self]
      by_cases hl : v < σ.length
      · rw [List.getElem?_set_self (by rw [L2.wipe_length]; exact hl), List.getElem?_eq_getElem hl]
        rfl
      · rw [List.getElem?_eq_none (by simp [L2.wipe_length]; omega), List.getElem?_eq_none (by omega)]
        rfl
    · rw [List.getElem?_set_ne h, wipe_get (vs := vs) (i := i)]
      by_cases h2 : i ∈ vs
      · rw [if_pos h2, if_pos (List.mem_cons_of_mem _ h2)]
      · rw [if_neg h2, if_neg (by simp [h2]; exact fun z => h z.symm)]
theorem wipe_set {σ : L2.St} {vs : List Nat} {i : Nat} {y : Option V} (h : i ∈ vs) : L2.wipe (σ.set i y) vs = L2.wipe σ vs := by
  apply List.ext_getElem?
  intro j
  rw [wipe_get, wipe_get]
  by_cases hj : j ∈ vs
  · rw [if_pos hj, if_pos hj]
    by_cases e : i = j
    · subst e
      by_cases hl : i < σ.length
      · rw [List.getElem?_set_self hl, List.getElem?_eq_getElem hl]; rfl
      · rw [List.getElem?_eq_none (by simp; omega), List.getElem?_eq_none (by omega)]
    · rw [List.getElem?_set_ne e]
  · rw [if_neg hj, if_neg hj, List.getElem?_set_ne (fun e => hj (by rw [← e]; exact h))]
theorem wipe_wipe {σ : L2.St} {vs : List Nat} : L2.wipe (L2.wipe σ vs) vs = L2.wipe σ vs := by
  apply List.ext_getElem?
  intro j
  rw [wipe_get, wipe_get]
  by_cases hj : j ∈ vs
  · rw [if_pos hj, if_pos hj]
    cases σ[j]? <;> rfl
  · rw [if_neg hj, if_neg hj]
def gN (i : Nat) : MG := fun x g => some (g.set i (some x))
theorem gd_nm {i : Nat} : GD c wAny (gName i) (gN i) := fun H ad v x σ g g1 a s e Q q => by
  cases e
  exact q _ (s.set a) trivial
theorem gd_own {i : Nat} {vs : List Nat} (h : i ∈ vs) : GD c (wBlk vs) (gName i) (gN i) := fun H ad v x σ g g1 a s e Q q => by
  cases e
  exact q _ (s.set a) (wipe_set h)
/-- several targets -/
abbrev MGs := List D → Gm → Option Gm
def GDs (c : Ct) (wp : L2.St → L2.St → Prop) (t : TGs) (mg : MGs) : Prop :=
  ∀ (H : Hp) (ad : List Addr) (us : List V) (xs : List D) (σ : L2.St) (g g1 : Gm), Dns c H ad us xs → Sl c H ad σ g → mg xs g = some g1 → ∀ Q : L2.St → Hp → Prop, (∀ σ1, Sl c H ad σ1 g1 → wp σ σ1 → Q σ1 H) → t us σ H Q
def gsNil : MGs := fun xs g => match xs with
  | [] => some g
  | _ :: _ => none
def gsCons (a : MG) (r : MGs) : MGs := fun xs g => match xs with
  | x :: xs => match a (.d x) g with
    | some g1 => r xs g1
    | none => none
  | [] => none
theorem gds_nil {wp : L2.St → L2.St → Prop} [WOk wp] : GDs c wp gNil gsNil := fun H ad us xs σ g g1 a s e Q q => by
  cases a with
  | nil => cases e; exact ⟨rfl, q σ s (WOk.refl σ)⟩
  | cons _ _ => cases e
theorem gds_cons {wp : L2.St → L2.St → Prop} [WOk wp] {t : TG} {ts : TGs} {a : MG} {r : MGs} (h1 : GD c wp t a) (h2 : GDs c wp ts r) : GDs c wp (gCons t ts) (gsCons a r) := fun H ad us xs σ g g1 x s e Q q => by
  cases x with
  | nil => cases e
  | cons y ys =>
    unfold gsCons at e
    split at e
    · rename_i x0 xs0 heq
      cases heq
      split at e
      · rename_i g2 hg
        exact ⟨_, _, rfl, h1 H ad _ _ σ g g2 (.d y) s hg _ fun σ1 s1 w1 => h2 H ad _ _ σ1 g2 g1 ys s1 e Q fun σ2 s2 w2 => q σ2 s2 (WOk.trans _ _ _ w1 w2)⟩
      · cases e
    · rename_i heq; cases heq
/-- (a, b, ..) out of a tuple -/
def gT (n : Nat) (r : MGs) : MG := fun x g => match x with
  | .d (.tup xs) => if xs.length = n then r xs g else none
  | _ => none
theorem tup_of {H : Hp} {ad : List Addr} {v : V} {xs : List D} (h : An c H ad v (.d (.tup xs))) : ∃ a us, v = .ref a ∧ SqT c.K H a us ∧ Dns c H ad us xs := by
  cases h with
  | d q =>
    cases q with
    | tup n r t => exact ⟨_, _, rfl, .inl r, t⟩
    | ktup r t => exact ⟨_, _, rfl, .inr r, t⟩
theorem gd_tup {wp : L2.St → L2.St → Prop} {n : Nat} {ts : TGs} {r : MGs} (h : GDs c wp ts r) : GD c wp (gTup c.K n ts) (gT n r) := fun H ad v x σ g g1 a s e Q q => by
  unfold gT at e
  split at e
  · split at e
    · rename_i xs hl
      obtain ⟨p, us, rfl, hq, t⟩ := tup_of a
      exact ⟨p, us, rfl, hq, t.length.trans hl, h H ad us xs σ g g1 t s e Q q⟩
    · cases e
  · cases e
def mAsg (e : ME) (t : MG) : MS := fun g mu => (e g mu).st g fun x m => match t x g with
  | some g1 => .nx g1 m
  | none => .stuck
theorem asg_run {m : ME} {t : TG} {a : MG} (hg : GD c wAny t a) {D : Ends} {σ : L2.St} {H : Hp} (h : lftS c W (mAsg m a) D σ H) : tAsg (lft c W m) t D σ H := by
  obtain ⟨g, ad, mu, hS, hT, o⟩ := h
  refine ⟨g, ad, mu, hS, hT, OutG.imp (OutS.bd (rel := An c) hS o) fun v H1 ⟨ad1, mu1, x, ch1, t1, dx, o1⟩ => ?_⟩
  split at o1
  · rename_i g1 hg1
    exact hg H1 ad1 v x σ g g1 dx (hS.ch ch1) hg1 _ fun σ1 s1 _ => o1 σ1 H1 ad1 (.refl _ _) s1 t1
  · exact o1.elim
theorem ds_set {i : Nat} {x : Str} {e : Expr} {m : ME} {pos pos' : Pos} (hN : X.N.Nodup) (hi : X.N[i]? = some x) (hx : Loc X.env.scope x) (he : PE X e (lft c W m)) (hs : swapsWith e (some (.Name x pos')) pos.line X.env = pure false := by rfl) (hf : X.fn x = true ∨ X.env.scope.names.lookup x = some .local := by first | exact .inl rfl | exact .inr rfl | assumption) :
    PS X (.Assign [.Name x pos'] e pos) (lftS c W (mAsg m (gN i))) := (ps_set hN hi hx he hs hf).weak fun D σ H h => asg_run gd_nm h
theorem ds_asg {tg e : Expr} {m : ME} {t : TG} {a : MG} {pos : Pos} (he : PE X e (lft c W m)) (hg : PG X tg t) (hd : GD c wAny t a) (hs : swapsWithSole [tg] e pos.line X.env = pure false := by rfl) (hw : swappedStores [tg] e X.env = pure none := by rfl)
    (h1 : (assignEach [tg] X.env).map (·.2) = [assign tg X.env] := by rfl) : PS X (.Assign [tg] e pos) (lftS c W (mAsg m a)) := (ps_asg he hg hs hw h1).weak fun D σ H h => asg_run hd h
/-- a, b = x, y (both written) -/
def mPar (i j : Nat) (a : MA) : MS := fun g mu => (a g mu).st g fun xs m => match xs with
  | [x, y] => .nx ((g.set i (some x)).set j (some y)) m
  | _ => .stuck
theorem par_run {i j : Nat} {ma : MA} {D : Ends} {σ : L2.St} {H : Hp} (h : lftS c W (mPar i j ma) D σ H) : tPar i j (lftA c W ma) D σ H := by
  obtain ⟨g, ad, mu, hS, hT, o⟩ := h
  refine ⟨g, ad, mu, hS, hT, OutG.imp (OutS.bd (rel := Ans c) hS o) fun vs H1 ⟨ad1, mu1, xs, ch1, t1, dx, o1⟩ => ?_⟩
  split at o1
  · cases dx with
    | cons a1 t =>
      cases t with
      | cons a2 t =>
        cases t
        exact ⟨_, _, rfl, o1 _ H1 ad1 (.refl _ _) (((hS.ch ch1).set a1).set a2) t1⟩
  · exact o1.elim

/-! ### x[i] = e -/
def setC (mu : Mu) (o i : Ar) (x : D) : Option Mu := match o, i with
  | .cel n, .d (.int k) => match mu[n]? with
    | some (.lst xs) => match ixN xs.length k with
      | some j => some (mu.set n (.lst (xs.set j x)))
      | none => none
    | _ => none
  | _, _ => none
theorem setC_inv {mu m3 : Mu} {o i : Ar} {x : D} (h : setC mu o i x = some m3) : ∃ n k xs j, o = .cel n ∧ i = .d (.int k) ∧ mu[n]? = some (.lst xs) ∧ ixN xs.length k = some j ∧ m3 = mu.set n (.lst (xs.set j x)) := by
  unfold setC at h
  split at h
  · split at h
    · split at h
      · rename_i n k _ xs hm _ j hj
        exact ⟨n, k, xs, j, rfl, rfl, hm, hj, (Option.some.inj h).symm⟩
      · cases h
    · cases h
  · cases h
theorem cel_of {H : Hp} {ad : List Addr} {v : V} {i : Nat} (h : An c H ad v (.cel i)) : ∃ a, v = .ref a ∧ ad[i]? = some a := by
  cases h with
  | cel e => exact ⟨_, rfl, e⟩
theorem d_of {H : Hp} {ad : List Addr} {v : V} {x : D} (h : An c H ad v (.d x)) : Dn c H ad v x := by
  cases h with
  | d e => exact e
theorem int_of {H : Hp} {ad : List Addr} {v : V} {i : Int} (h : An c H ad v (.d (.int i))) : v = .int i := by
  cases h with
  | d a => cases a; rfl
def mSetI (e o i : ME) : MS := fun g mu => (e g mu).st g fun x m => (o g m).st g fun ov m1 => (i g m1).st g fun iv m2 => match x with
  | .d x => match setC m2 ov iv x with
    | some m3 => .nx g m3
    | none => .stuck
  | _ => .stuck
theorem ds_setI {eo ei e : Expr} {m mo mi : ME} {tpos pos : Pos} (he : PE X e (lft c W m)) (ho : PE X eo (lft c W mo)) (hi : PE X ei (lft c W mi))
    (ha : ∀ v, assign (.Subscript eo ei tpos) X.env v = (do
      let ov ← holding [v] (eval eo X.env)
      let iv ← holding [v, ov] (eval ei X.env)
      standAt tpos
      holding [v, ov, iv] (setItem ov iv v)
      release [v, ov, iv] []) := by intro _; rfl)
    (hs : swapsWithSole [.Subscript eo ei tpos] e pos.line X.env = pure false := by rfl) (hw : swappedStores [.Subscript eo ei tpos] e X.env = pure none := by rfl)
    (h1 : (assignEach [.Subscript eo ei tpos] X.env).map (·.2) = [assign (.Subscript eo ei tpos) X.env] := by rfl) : PS X (.Assign [.Subscript eo ei tpos] e pos) (lftS c W (mSetI m mo mi)) :=
  (ps_asg he (pg_sub ho hi set_list ha) hs hw h1).weak fun D σ H ⟨g, ad, mu, hS, hT, o⟩ => by
    refine ⟨g, ad, mu, hS, hT, OutG.imp (OutS.bd (rel := An c) hS o) fun v H1 ⟨ad1, mu1, x, ch1, t1, dx, o1⟩ => ?_⟩
    refine ⟨g, ad1, mu1, hS.ch ch1, t1, OutG.imp (OutS.bd (rel := An c) (hS.ch ch1) o1) fun ov H2 ⟨ad2, mu2, xo, ch2, t2, dxo, o2⟩ => ?_⟩
    refine ⟨g, ad2, mu2, (hS.ch ch1).ch ch2, t2, OutG.imp (OutS.bd (rel := An c) ((hS.ch ch1).ch ch2) o2) fun iv H3 ⟨ad3, mu3, xi, ch3, t3, dxi, o3⟩ => ?_⟩
    have dx3 := (dx.ch ch2).ch ch3
    have dxo3 := dxo.ch ch3
    have s3 := (((hS.ch ch1).ch ch2)).ch ch3
    split at o3
    · split at o3
      · rename_i hset
        obtain ⟨n, k, xs, j, rfl, rfl, hm, hj, rfl⟩ := setC_inv hset
        obtain ⟨a, rfl, ea⟩ := cel_of dxo3
        have ei := int_of dxi
        subst ei
        obtain ⟨a', ea', vs, hv, tv⟩ := t3.addr hm
        rw [ea] at ea'
        cases ea'
        have hin : a ∈ ad3 := List.mem_of_getElem? ea
        exact ⟨a, vs, k, j, rfl, rfl, hv, by rw [tv.length]; exact hj, o3 σ _ ad3 (.put hin) (s3.ch (.put hin)) (t3.put ea ⟨_, upd_same, (tv.set j (d_of dx3)).ch (.put hin)⟩)⟩
      · exact o3.elim
    · exact o3.elim

/-! ### a built-in type's method -/
def mBM (ty : Mu → Ar → Bool) (f : Mu → Ar → List Ar → Option (D × Mu)) (o : ME) (a : MA) : ME := fun g mu => (o g mu).bd fun ov m => if ty m ov then (a g m).bd fun xs m1 => (match f m1 ov xs with
  | some (z, m2) => .ok (.d z) m2
  | none => .stuck) else .stuck
structure MtD (c : Ct) (T : String) (r : V → List V → Hp → VK → Prop) (ty : Mu → Ar → Bool) (f : Mu → Ar → List Ar → Option (D × Mu)) : Prop where
  ty_ : ∀ (H : Hp) (ad : List Addr) (mu : Mu) (v : V) (x : Ar), Sto c H ad mu → An c H ad v x → ty mu x = true → tyV c.K T v H
  run : ∀ (H : Hp) (ad : List Addr) (mu : Mu) (v : V) (x : Ar) (vs : List V) (xs : List Ar) (z : D) (m2 : Mu), Sto c H ad mu → An c H ad v x → Ans c H ad vs xs → f mu x xs = some (z, m2) →
    ∀ Q : VK, (∀ u H', Ch H ad H' ad → Sto c H' ad m2 → Dn c H' ad u z → Q u H') → r v vs H Q
theorem de_bm {e : Expr} {T : String} {r : V → List V → Hp → VK → Prop} {ty : Mu → Ar → Bool} {f : Mu → Ar → List Ar → Option (D × Mu)} {mo : ME} {ma : MA} (hd : MtD c T r ty f) (h : PE X e (tBM c.K T r (lft c W mo) (lftA c W ma))) : PE X e (lft c W (mBM ty f mo ma)) :=
  h.weak fun σ H Q ⟨g, ad, mu, hS, hT, o⟩ => by
    refine ⟨g, ad, mu, hS, hT, OutG.imp (OutG.bd (rel := An c) o) fun v H1 ⟨ad1, mu1, x, ch1, t1, dx, o1⟩ => ?_⟩
    split at o1
    · rename_i ht
      refine ⟨hd.ty_ H1 ad1 mu1 v x t1 dx ht, g, ad1, mu1, hS.ch ch1, t1, OutG.imp (OutG.bd (rel := Ans c) o1) fun vs H2 ⟨ad2, mu2, xs, ch2, t2, dxs, o2⟩ => ?_⟩
      split at o2
      · rename_i z m2 hz
        exact hd.run H2 ad2 mu2 v x vs xs z m2 t2 (dx.ch ch2) dxs hz Q fun u H' a b d => o2 u H' ad2 a b (.d d)
      · exact o2.elim
    · exact o1.elim
theorem de_bm0 {e : Expr} {T : String} {r : V → List V → Hp → VK → Prop} {ty : Mu → Ar → Bool} {f : Mu → Ar → List Ar → Option (D × Mu)} {mo : ME} (hd : MtD c T r ty f) (h : PE X e (tBM0 c.K T r (lft c W mo))) : PE X e (lft c W (mBM ty f mo mNil)) :=
  h.weak fun σ H Q ⟨g, ad, mu, hS, hT, o⟩ => by
    refine ⟨g, ad, mu, hS, hT, OutG.imp (OutG.bd (rel := An c) o) fun v H1 ⟨ad1, mu1, x, ch1, t1, dx, o1⟩ => ?_⟩
    split at o1
    · rename_i ht
      refine ⟨hd.ty_ H1 ad1 mu1 v x t1 dx ht, ?_⟩
      have o2 : OutG c W σ H1 ad1 (An c) (match f mu1 x [] with
        | some (z, m2) => .ok (.d z) m2
        | none => .stuck) Q := o1
      split at o2
      · rename_i z m2 hz
        exact hd.run H1 ad1 mu1 v x [] [] z m2 t1 dx .nil hz Q fun u H' a b d => o2 u H' ad1 a b (.d d)
      · exact o2.elim
    · exact o1.elim
def isLC (mu : Mu) (x : Ar) : Bool := match x with
  | .cel n => match mu[n]? with
    | some (.lst _) => true
    | _ => false
  | _ => false
theorem isLC_ok {H : Hp} {ad : List Addr} {mu : Mu} {v : V} {x : Ar} (s : Sto c H ad mu) (a : An c H ad v x) (h : isLC mu x = true) : tyV c.K "list" v H := by
  unfold isLC at h
  split at h
  · split at h
    · rename_i n _ xs hm
      obtain ⟨p, rfl, ep⟩ := cel_of a
      obtain ⟨p', ep', vs, hv, _⟩ := s.addr hm
      rw [ep] at ep'
      cases ep'
      exact .inl ⟨rfl, vs, SqL.of hv⟩
    · cases h
  · cases h
/-- the list in a cell is written anew -/
theorem Sto.wr {H : Hp} {ad : List Addr} {mu : Mu} {n : Nat} {a : Addr} {vs : List V} {ds : List D} (s : Sto c H ad mu) (ea : ad[n]? = some a) (t : Dns c H ad vs ds) : Ch H ad (upd H a (.lst vs)) ad ∧ Sto c (upd H a (.lst vs)) ad (mu.set n (.lst ds)) :=
  ⟨.put (List.mem_of_getElem? ea), s.put ea ⟨vs, upd_same, t.ch (.put (List.mem_of_getElem? ea))⟩⟩
theorem Sto.rd {H : Hp} {ad : List Addr} {mu : Mu} {n : Nat} {v : V} {xs : List D} (s : Sto c H ad mu) (a : An c H ad v (.cel n)) (hm : mu[n]? = some (.lst xs)) : ∃ p vs, v = .ref p ∧ ad[n]? = some p ∧ H p = some (.lst vs) ∧ Dns c H ad vs xs := by
  obtain ⟨p, rfl, ep⟩ := cel_of a
  obtain ⟨p', ep', vs, hv, tv⟩ := s.addr hm
  rw [ep] at ep'
  cases ep'
  exact ⟨p, vs, rfl, ep, hv, tv⟩
def fAppend : Mu → Ar → List Ar → Option (D × Mu) := fun mu o xs => match o, xs with
  | .cel n, [.d x] => match mu[n]? with
    | some (.lst ys) => if ys.length < 16777216 then some (.non, mu.set n (.lst (ys ++ [x]))) else none
    | _ => none
  | _, _ => none
theorem Ans.one {H : Hp} {ad : List Addr} {vs : List V} {x : Ar} (h : Ans c H ad vs [x]) : ∃ v, vs = [v] ∧ An c H ad v x := by
  cases h with
  | cons a t => cases t; exact ⟨_, rfl, a⟩
theorem Ans.two {H : Hp} {ad : List Addr} {vs : List V} {x y : Ar} (h : Ans c H ad vs [x, y]) : ∃ v w, vs = [v, w] ∧ An c H ad v x ∧ An c H ad w y := by
  cases h with
  | cons a t =>
    obtain ⟨w, rfl, b⟩ := t.one
    exact ⟨_, w, rfl, a, b⟩
theorem md_append : MtD c "list" rAppend isLC fAppend := ⟨fun H ad mu v x => isLC_ok, fun H ad mu v x vs xs z m2 s a as h Q q => by
  unfold fAppend at h
  split at h
  · split at h
    · split at h
      · rename_i n y _ ys hm hl
        cases h
        obtain ⟨p, us, rfl, ep, hp, tp⟩ := s.rd a hm
        obtain ⟨w, rfl, b⟩ := as.one
        obtain ⟨ch, st⟩ := s.wr ep (tp.append (.cons (d_of b) .nil))
        exact ⟨p, us, w, rfl, rfl, hp, by rw [tp.length, line]; exact hl, q _ _ ch st .non⟩
      · cases h
    · cases h
  · cases h⟩
def fPop : Mu → Ar → List Ar → Option (D × Mu) := fun mu o xs => match o, xs with
  | .cel n, [] => match mu[n]? with
    | some (.lst ys) => match ys[ys.length - 1]? with
      | some y => some (y, mu.set n (.lst ys.dropLast))
      | none => none
    | _ => none
  | _, _ => none
theorem Dns.dropLast {H : Hp} {ad : List Addr} {vs : List V} {ds : List D} (h : Dns c H ad vs ds) : Dns c H ad vs.dropLast ds.dropLast := by
  rw [List.dropLast_eq_take, List.dropLast_eq_take, h.length]
  exact h.take _
theorem md_pop : MtD c "list" rPop isLC fPop := ⟨fun H ad mu v x => isLC_ok, fun H ad mu v x vs xs z m2 s a as h Q q => by
  unfold fPop at h
  split at h
  · split at h
    · split at h
      · rename_i n _ ys hm _ y hy
        cases h
        obtain ⟨p, us, rfl, ep, hp, tp⟩ := s.rd a hm
        obtain ⟨w, hw, b⟩ := tp.get hy
        cases as
        obtain ⟨ch, st⟩ := s.wr ep tp.dropLast
        exact ⟨p, us, w, rfl, rfl, hp, by rw [tp.length]; exact hw, q _ _ ch st (b.ch ch)⟩
      · cases h
    · cases h
  · cases h⟩

/-! ### loops -/
abbrev MI := Gm → Mu → R (List D)
/-- an iterator that yields these -/
def Wk (c : Ct) (ds : List D) (J : It) (H : Hp) (ad : List Addr) : Prop := ∀ H2 ad2, Ch H ad H2 ad2 → (∀ (i : Nat) (d : D), ds[i]? = some d → J.go i H2 ∧ ∀ x H3, J.yld i H2 x H3 → Ex H2 H3 ∧ Dn c H3 ad2 x d) ∧ J.stop ds.length H2
def lftI (c : Ct) (W : WX) (m : MI) : TI := fun σ H Q => ∃ g ad mu, Sl c H ad σ g ∧ Sto c H ad mu ∧ OutG c W σ H ad (fun H' ad' J ds => Wk c ds J H' ad') (m g mu) Q
theorem _root_.L2.PI.weak {X : Cx} {tg e : Expr} {t t' : TI} (h : PI X tg e t) (hw : ∀ σ H R, t' σ H R → t σ H R) : PI X tg e t' := ⟨fun pins s σ H R I q => h.run pins s σ H R I (hw σ H R q)⟩
def forL (t : MG) (b : MS) : List D → Gm → Mu → RS
  | [], g, m => .nx g m
  | d :: ds, g, m => match t (.d d) g with
    | none => .stuck
    | some g1 => match b g1 m with
      | .nx g2 m2 => forL t b ds g2 m2
      | .ct g2 m2 => forL t b ds g2 m2
      | .bk g2 m2 => .nx g2 m2
      | .rt x m2 => .rt x m2
      | .exc C ks es g2 m2 => .exc C ks es g2 m2
      | .stuck => .stuck
def mFor (i : MI) (t : MG) (b : MS) : MS := fun g mu => (i g mu).st g fun ds m => forL t b ds g m
theorem for_run {mi : MI} {t : TG} {mt : MG} {mb : MS} (hd : GD c wAny t mt) {D : Ends} {σ : L2.St} {H : Hp} (h : lftS c W (mFor mi mt mb) D σ H) : tFor (lftI c W mi) t (lftS c W mb) D σ H := by
  obtain ⟨g, ad, mu, hS, hT, o⟩ := h
  refine ⟨g, ad, mu, hS, hT, OutG.imp (OutS.bd hS o) fun J H1 ⟨ad1, mu1, ds, ch1, t1, wk, o1⟩ => ?_⟩
  refine ⟨fun i m σ2 H2 => m = ds.length - i ∧ i ≤ ds.length ∧ ∃ g2 ad2 mu2, Ch H1 ad1 H2 ad2 ∧ Sl c H2 ad2 σ2 g2 ∧ Sto c H2 ad2 mu2 ∧ OutS c W H2 ad2 (forL mt mb (ds.drop i) g2 mu2) D,
    ⟨ds.length, by simp, Nat.zero_le _, g, ad1, mu1, .refl _ _, hS.ch ch1, t1, o1⟩, ?_⟩
  rintro i m σ2 H2 ⟨rfl, hi, g2, ad2, mu2, ch2, s2, t2, o2⟩
  obtain ⟨w1, w2⟩ := wk H2 ad2 ch2
  by_cases hlt : i < ds.length
  · have hd0 : ds.drop i = ds[i] :: ds.drop (i + 1) := List.drop_eq_getElem_cons hlt
    rw [hd0] at o2
    have hgo := w1 i ds[i] (by simp [hlt])
    refine .inr ⟨hgo.1, fun σ' H' => i + 1 ≤ ds.length ∧ ∃ g2 ad2 mu2, Ch H1 ad1 H' ad2 ∧ Sl c H' ad2 σ' g2 ∧ Sto c H' ad2 mu2 ∧ OutS c W H' ad2 (forL mt mb (ds.drop (i + 1)) g2 mu2) D,
      fun σ' H' q => ⟨ds.length - (i + 1), by omega, rfl, q⟩, fun x H3 y => ?_⟩
    obtain ⟨e3, dx⟩ := hgo.2 x H3 y
    unfold forL at o2
    split at o2
    · exact o2.elim
    · rename_i g3 hg3
      refine hd H3 ad2 x _ σ2 g2 g3 (.d dx) (s2.ch (.ex e3)) hg3 _ fun σ3 s3 _ => ⟨g3, ad2, mu2, s3, t2.ex e3, ?_⟩
      cases hb : mb g3 mu2 with
      | nx g4 m4 =>
        rw [hb] at o2
        exact fun σ' H' ad' a b d => ⟨by omega, g4, ad', m4, (ch2.trans (.ex e3)).trans a, b, d, OutS.mv ((Ch.ex e3).trans a) o2⟩
      | ct g4 m4 =>
        rw [hb] at o2
        exact fun σ' H' ad' a b d => ⟨by omega, g4, ad', m4, (ch2.trans (.ex e3)).trans a, b, d, OutS.mv ((Ch.ex e3).trans a) o2⟩
      | bk g4 m4 =>
        rw [hb] at o2
        exact fun σ' H' ad' a b d => o2 σ' H' ad' ((Ch.ex e3).trans a) b d
      | rt x m4 =>
        rw [hb] at o2
        exact fun v H' ad' a b d => o2 v H' ad' ((Ch.ex e3).trans a) b d
      | exc C ks es g4 m4 =>
        rw [hb] at o2
        exact OutS.mv (.ex e3) o2
      | stuck => rw [hb] at o2; exact o2
  · have e : i = ds.length := by omega
    subst e
    rw [List.drop_length] at o2
    exact .inl ⟨w2, o2 σ2 H2 ad2 (.refl _ _) s2 t2⟩
theorem ds_for {tg iter : Expr} {body : List Stmt} {mi : MI} {t : TG} {mt : MG} {mb : MS} {pos : Pos} (hp : PassesOwn (model X.prog X.w) X.A X.env X.xe) (hc : X.calm = true) (hi : PI X tg iter (lftI c W mi)) (hg : PG X tg t) (hd : GD c wAny t mt) (hb : PSs X body (lftS c W mb))
    (hs : ∀ x, foldedSetIterable iter X.env x = pure x := by intro _; rfl) : PS X (.For tg iter body [] pos) (lftS c W (mFor mi mt mb)) :=
  (ps_for hp hc hi hg hb hs).weak fun D σ H h => for_run hd h
/-- the data of a sequence -/
def sqD (mu : Mu) : Ar → Option (List D)
  | .d (.tup xs) => some xs
  | .d (.lst xs) => some xs
  | _ => none
def tpD : Ar → Option (List D)
  | .d (.tup xs) => some xs
  | _ => none
def lsD : Ar → Option (List D)
  | .d (.lst xs) => some xs
  | _ => none
def mItT (e : ME) : MI := fun g mu => (e g mu).bd fun x m => match x with
  | .d (.tup xs) => .ok xs m
  | _ => .stuck
def mItL (e : ME) : MI := fun g mu => (e g mu).bd fun x m => match x with
  | .d (.lst xs) => .ok xs m
  | _ => .stuck
theorem SqT.ch {H H' : Hp} {ad ad' : List Addr} (h : Ch H ad H' ad') {a : Addr} {us : List V} (n : a ∉ ad ∨ KT c.K a us) (q : SqT c.K H a us) : SqT c.K H' a us := by
  rcases q with q | q
  · rcases n with n | n
    · exact .inl (Rd.ch h n q)
    · exact .inr n
  · exact .inr q
theorem tup_of2 {H : Hp} {ad : List Addr} {v : V} {xs : List D} (h : An c H ad v (.d (.tup xs))) : ∃ a us, v = .ref a ∧ (∀ H' ad', Ch H ad H' ad' → SqT c.K H' a us) ∧ Dns c H ad us xs := by
  cases h with
  | d q =>
    cases q with
    | tup n r t => exact ⟨_, _, rfl, fun H' ad' ch => .inl (Rd.ch ch n r), t⟩
    | ktup r t => exact ⟨_, _, rfl, fun _ _ _ => .inr r, t⟩
theorem lst_of2 {H : Hp} {ad : List Addr} {v : V} {xs : List D} (h : An c H ad v (.d (.lst xs))) : ∃ a us, v = .ref a ∧ a ∉ ad ∧ H a = some (.lst us) ∧ (∀ H' ad', Ch H ad H' ad' → SqL c.K H' a us) ∧ Dns c H ad us xs := by
  cases h with
  | d q =>
    cases q with
    | lst n r t => exact ⟨_, _, rfl, n, r, fun H' ad' ch => SqL.of (ch.keep _ _ r n), t⟩
theorem di_tup {tg e : Expr} {m : ME} (h : PE X e (lft c W m)) (hK : X.K = c.K) : PI X tg e (lftI c W (mItT m)) :=
  (pi_tup h).weak fun σ H R ⟨g, ad, mu, hS, hT, o⟩ => by
    refine ⟨g, ad, mu, hS, hT, OutG.imp (OutG.bd (rel := An c) o) fun v H1 ⟨ad1, mu1, x, ch1, t1, dx, o1⟩ => ?_⟩
    split at o1
    · rename_i xs
      obtain ⟨a, us, rfl, hq, t⟩ := tup_of2 dx
      rw [hK]
      refine ⟨a, rfl, ⟨us, hq _ _ (.refl _ _)⟩, o1 _ H1 ad1 (.refl _ _) t1 fun H2 ad2 ch => ⟨fun i d hd => ?_, us, hq _ _ ch, by rw [t.length]; exact Nat.le_refl _⟩⟩
      obtain ⟨u, hu, du⟩ := t.get hd
      refine ⟨⟨us, u, hq _ _ ch, hu⟩, fun y H3 ⟨e3, hy⟩ => ?_⟩
      subst e3
      have := hy us (hq _ _ ch)
      rw [hu] at this
      cases this
      exact ⟨.refl _, du.ch ch⟩
    · exact o1.elim
theorem di_lst {tg e : Expr} {m : ME} (h : PE X e (lft c W m)) (hK : X.K = c.K) : PI X tg e (lftI c W (mItL m)) :=
  (pi_list h).weak fun σ H R ⟨g, ad, mu, hS, hT, o⟩ => by
    refine ⟨g, ad, mu, hS, hT, OutG.imp (OutG.bd (rel := An c) o) fun v H1 ⟨ad1, mu1, x, ch1, t1, dx, o1⟩ => ?_⟩
    split at o1
    · rename_i xs
      obtain ⟨a, us, rfl, _, _, hq, t⟩ := lst_of2 dx
      rw [hK]
      refine ⟨a, rfl, ⟨us, hq _ _ (.refl _ _)⟩, o1 _ H1 ad1 (.refl _ _) t1 fun H2 ad2 ch => ⟨fun i d hd => ?_, us, hq _ _ ch, by rw [t.length]; exact Nat.le_refl _⟩⟩
      obtain ⟨u, hu, du⟩ := t.get hd
      refine ⟨⟨us, u, hq _ _ ch, hu⟩, fun y H3 ⟨e3, hy⟩ => ?_⟩
      subst e3
      have := hy us (hq _ _ ch)
      rw [hu] at this
      cases this
      exact ⟨.refl _, du.ch ch⟩
    · exact o1.elim
/-- lo .. lo + n - 1 -/
def rngD (lo : Int) (n : Nat) : List D := (List.range n).map fun i => .int (lo + (i : Nat))
theorem rngD_get {lo : Int} {n i : Nat} {d : D} (h : (rngD lo n)[i]? = some d) : i < n ∧ d = .int (lo + (i : Nat)) := by
  unfold rngD at h
  rw [List.getElem?_map] at h
  cases e : (List.range n)[i]? with
  | none => rw [e] at h; cases h
  | some j =>
    rw [e] at h
    obtain ⟨h1, h2⟩ := List.getElem?_eq_some_iff.mp e
    simp at h1 h2
    subst h2
    exact ⟨h1, (Option.some.inj h).symm⟩
theorem rngD_len {lo : Int} {n : Nat} : (rngD lo n).length = n := by simp [rngD]
theorem wk_rng {lo : Int} {n : Nat} {H : Hp} {ad : List Addr} : Wk c (rngD lo n) (Itr lo n) H ad := fun H2 ad2 ch => ⟨fun i d hd => by
  obtain ⟨h1, rfl⟩ := rngD_get hd
  refine ⟨h1, fun x H3 ⟨e3, hx⟩ => ?_⟩
  subst e3
  subst hx
  exact ⟨.refl _, .int _⟩, by rw [rngD_len]; exact Nat.le_refl n⟩
def mRng1 (a : MA) : MI := fun g mu => (a g mu).bd fun xs m => match xs with
  | [.d (.int j)] => if -(2 ^ 62) ≤ j ∧ j < 2 ^ 62 then .ok (rngD 0 j.toNat) m else .stuck
  | _ => .stuck
def mRng2 (a : MA) : MI := fun g mu => (a g mu).bd fun xs m => match xs with
  | [.d (.int i), .d (.int j)] => if -(2 ^ 62) ≤ i ∧ i < 2 ^ 62 ∧ -(2 ^ 62) ≤ j ∧ j < 2 ^ 62 then .ok (rngD i (j - i).toNat) m else .stuck
  | _ => .stuck
theorem di_rng1 {tg a : Expr} {ma : MA} {p pos : Pos} (hg : Gl X "range") (hm : X.mg "range" = none) (ha : PA X [a] (lftA c W ma)) (hs : starEach [a] X.env = [(false, eval a X.env)] := by rfl) : PI X tg (.Call (.Name "range" p) [a] [] pos) (lftI c W (mRng1 ma)) :=
  (pi_range1 hg hm ha hs).weak fun σ H R ⟨g, ad, mu, hS, hT, o⟩ => by
    refine ⟨g, ad, mu, hS, hT, OutG.imp (OutG.bd (rel := Ans c) o) fun vs H1 ⟨ad1, mu1, xs, ch1, t1, dx, o1⟩ => ?_⟩
    split at o1
    · split at o1
      · rename_i j hj
        obtain ⟨v, rfl, b⟩ := dx.one
        exact ⟨j, by rw [int_of b], hj.1, hj.2, o1 _ H1 ad1 (.refl _ _) t1 wk_rng⟩
      · exact o1.elim
    · exact o1.elim
theorem di_rng2 {tg a b : Expr} {ma : MA} {p pos : Pos} (hg : Gl X "range") (hm : X.mg "range" = none) (ha : PA X [a, b] (lftA c W ma)) (hs : starEach [a, b] X.env = [(false, eval a X.env), (false, eval b X.env)] := by rfl) (hs2 : starEach [b] X.env = [(false, eval b X.env)] := by rfl) : PI X tg (.Call (.Name "range" p) [a, b] [] pos) (lftI c W (mRng2 ma)) :=
  (pi_range2 hg hm ha hs hs2).weak fun σ H R ⟨g, ad, mu, hS, hT, o⟩ => by
    refine ⟨g, ad, mu, hS, hT, OutG.imp (OutG.bd (rel := Ans c) o) fun vs H1 ⟨ad1, mu1, xs, ch1, t1, dx, o1⟩ => ?_⟩
    split at o1
    · split at o1
      · rename_i i j hj
        obtain ⟨v, w, rfl, b1, b2⟩ := dx.two
        exact ⟨i, j, by rw [int_of b1, int_of b2], hj, o1 _ H1 ad1 (.refl _ _) t1 wk_rng⟩
      · exact o1.elim
    · exact o1.elim
/-- while, with fuel -/
def whL (t : MT) (b : MS) : Nat → Gm → Mu → RS
  | 0, _, _ => .stuck
  | n + 1, g, mu => (t g mu).st g fun x m => if x then (match b g m with
      | .nx g2 m2 => whL t b n g2 m2
      | .ct g2 m2 => whL t b n g2 m2
      | .bk g2 m2 => .nx g2 m2
      | .rt x m2 => .rt x m2
      | .exc C ks es g2 m2 => .exc C ks es g2 m2
      | .stuck => .stuck) else .nx g m
theorem while_run {n : Nat} {mt : MT} {mb : MS} {D : Ends} {σ : L2.St} {H : Hp} (h : lftS c W (whL mt mb n) D σ H) : tWhile (lftT c W mt) (lftS c W mb) D σ H := by
  obtain ⟨g, ad, mu, hS, hT, o⟩ := h
  refine ⟨fun m σ2 H2 => ∃ g2 ad2 mu2, Sl c H2 ad2 σ2 g2 ∧ Sto c H2 ad2 mu2 ∧ OutS c W H2 ad2 (whL mt mb m g2 mu2) D, ⟨n, g, ad, mu, hS, hT, o⟩, ?_⟩
  rintro m σ2 H2 ⟨g2, ad2, mu2, s2, t2, o2⟩
  cases m with
  | zero => exact o2.elim
  | succ m =>
    refine ⟨g2, ad2, mu2, s2, t2, OutG.imp (OutS.bd (rel := relB) s2 o2) fun b H3 ⟨ad3, mu3, x, ch3, t3, e, o3⟩ => ?_⟩
    cases e
    cases b with
    | false => exact iteF (o3 σ2 H3 ad3 (.refl _ _) (s2.ch ch3) t3)
    | true =>
      refine iteT ⟨fun σ' H' => ∃ g2 ad2 mu2, Sl c H' ad2 σ' g2 ∧ Sto c H' ad2 mu2 ∧ OutS c W H' ad2 (whL mt mb m g2 mu2) D, fun σ' H' q => ⟨m, Nat.lt_succ_self _, q⟩, g2, ad3, mu3, s2.ch ch3, t3, ?_⟩
      have o4 : OutS c W H3 ad3 (match mb g2 mu3 with
        | .nx g2 m2 => whL mt mb m g2 m2
        | .ct g2 m2 => whL mt mb m g2 m2
        | .bk g2 m2 => .nx g2 m2
        | .rt x m2 => .rt x m2
        | .exc C ks es g2 m2 => .exc C ks es g2 m2
        | .stuck => .stuck) D := o3
      cases hb : mb g2 mu3 with
      | nx g4 m4 =>
        rw [hb] at o4
        exact fun σ' H' ad' a b d => ⟨g4, ad', m4, b, d, OutS.mv a o4⟩
      | ct g4 m4 =>
        rw [hb] at o4
        exact fun σ' H' ad' a b d => ⟨g4, ad', m4, b, d, OutS.mv a o4⟩
      | bk g4 m4 => rw [hb] at o4; exact o4
      | rt x m4 => rw [hb] at o4; exact o4
      | exc C ks es g4 m4 => rw [hb] at o4; exact o4
      | stuck => rw [hb] at o4; exact o4
theorem ds_while {n : Nat} {t : Expr} {body : List Stmt} {mt : MT} {mb : MS} {pos : Pos} (hp : PassesOwn (model X.prog X.w) X.A X.env X.xe) (ht : PT X t (lftT c W mt)) (hb : PSs X body (lftS c W mb)) : PS X (.While t body [] pos) (lftS c W (whL mt mb n)) :=
  (ps_while hp ht hb).weak fun D σ H h => while_run h
end
end Dw
namespace Dw
open PySem PySem.Spec PyProof.Rows L2
section
variable {X : Cx} {c : Ct} {W : WX}
/-- nothing may be raised (a comprehension's block, an except suite) -/
abbrev W0 : WX := fun _ _ _ _ => False

/-! ### list comprehensions, one clause -/
/-- the loop; the list that is made stands in the cell n (the last one) -/
def lcL (n : Nat) (g : Gm) (t : MG) (mt : MT) (me : ME) : List D → Mu → R Unit
  | [], m => .ok () m
  | d :: ds, m => match t (.d d) g with
    | none => .stuck
    | some g1 => match mt g1 m with
      | .ok true m1 => (match me g1 m1 with
        | .ok (.d y) m2 => (match m2[n]? with
          | some (.lst acc) => if acc.length < 16777216 then lcL n g t mt me ds ((m2.take (n + 1)).set n (.lst (acc ++ [y]))) else .stuck
          | _ => .stuck)
        | _ => .stuck)
      | .ok false m1 => lcL n g t mt me ds (m1.take (n + 1))
      | _ => .stuck
def mLc (vs : List Nat) (i : MI) (t : MG) (mt : MT) (me : ME) : ME := fun g mu => (i g mu).bd fun ds m => (lcL m.length (wipeG g vs) t mt me ds (m ++ [.lst []])).bd fun _ m1 => match m1[m.length]? with
  | some (.lst acc) => .ok (.d (.lst acc)) (m1.take m.length)
  | _ => .stuck
/-- the list goes on as a cell -/
def mLcC (vs : List Nat) (i : MI) (t : MG) (mt : MT) (me : ME) : ME := fun g mu => (i g mu).bd fun ds m => (lcL m.length (wipeG g vs) t mt me ds (m ++ [.lst []])).bd fun _ m1 => match m1[m.length]? with
  | some (.lst acc) => .ok (.cel m.length) m1
  | _ => .stuck
theorem Ch.cut {H H' : Hp} {ad t : List Addr} (h : Ch H ad H' (ad ++ t)) : Ch H ad H' ad := ⟨h.keep, h.there, [], by simp, by simp⟩
theorem lc_run (fin : Addr → Mu → Hp → List Addr → Prop) {mt : MT} {me : ME} {t : TG} {a : MG} {vs : List Nat} {σ : L2.St} {H1 : Hp} {ad1 : List Addr} {g : Gm} {J : It} {Q : VK} (hd : GD c (wBlk vs) t a) :
    ∀ (ds : List D) (m1 : Mu), Wk c ds J H1 ad1 → Sl c H1 ad1 σ g → Sto c H1 ad1 m1 → ∀ D, H1 D = none → ∀ (mf : Mu), lcL m1.length (wipeG g vs) a mt me ds (m1 ++ [.lst []]) = .ok () mf →
      (∀ H2, Ch H1 ad1 H2 (ad1 ++ [D]) → Sto c H2 (ad1 ++ [D]) mf → Q (.ref D) H2) →
    ∃ W' : Nat → Nat → Hp → Prop, (∃ m, W' 0 m (upd H1 D (.lst []))) ∧ ∀ i m H, W' i m H →
      (J.stop i H ∧ Q (.ref D) H) ∨ (J.go i H ∧ ∃ Nx : Hp → Prop, (∀ H', Nx H' → ∃ m', m' < m ∧ W' (i + 1) m' H') ∧ ∀ x H', J.yld i H x H' → t x (L2.wipe σ vs) H' fun σ2 H2 => L2.wipe σ2 vs = L2.wipe σ vs ∧ lftT c W0 mt σ2 H2 fun b H3 =>
        if b = true then lft c W0 me σ2 H3 fun y H4 => ∃ acc, H4 D = some (.lst acc) ∧ acc.length < sizeLine ∧ Nx (upd H4 D (.lst (acc ++ [y]))) else Nx H3) := by
  intro ds m1 wk hS hT D hD mf hmf hfin
  refine ⟨fun i m H => m = ds.length - i ∧ i ≤ ds.length ∧ ∃ m2, Ch H1 ad1 H (ad1 ++ [D]) ∧ Sto c H (ad1 ++ [D]) m2 ∧ lcL m1.length (wipeG g vs) a mt me (ds.drop i) m2 = .ok () mf, ⟨ds.length, by simp, Nat.zero_le _, m1 ++ [.lst []], .new hD, hT.new (cl := .lst []) hD ⟨[], upd_same, .nil⟩, by rw [List.drop_zero]; exact hmf⟩, ?_⟩
  rintro i m H ⟨rfl, hi, m2, ch2, t2, e2⟩
  have w := wk H (ad1 ++ [D]) ch2
  have hlen : ad1.length = m1.length := hT.len
  by_cases hlt : i < ds.length
  · have hd0 : ds.drop i = ds[i] :: ds.drop (i + 1) := List.drop_eq_getElem_cons hlt
    rw [hd0] at e2
    have hgo := w.1 i ds[i] (by simp [hlt])
    refine .inr ⟨hgo.1, fun H' => i + 1 ≤ ds.length ∧ ∃ m2, Ch H1 ad1 H' (ad1 ++ [D]) ∧ Sto c H' (ad1 ++ [D]) m2 ∧ lcL m1.length (wipeG g vs) a mt me (ds.drop (i + 1)) m2 = .ok () mf, fun H' q => ⟨ds.length - (i + 1), by omega, rfl, q⟩, fun x H3 y => ?_⟩
    obtain ⟨e3, dx⟩ := hgo.2 x H3 y
    unfold lcL at e2
    split at e2
    · cases e2
    · rename_i g3 hg3
      have ch3 : Ch H1 ad1 H3 (ad1 ++ [D]) := ch2.trans (.ex e3)
      refine hd H3 (ad1 ++ [D]) x _ (L2.wipe σ vs) (wipeG g vs) g3 (.d dx) ((hS.wipe vs).ch ch3) hg3 _ fun σ3 s3 w3 => ⟨Eq.trans w3 wipe_wipe, ?_⟩
      refine ⟨g3, ad1 ++ [D], m2, s3, t2.ex e3, ?_⟩
      cases ht : mt g3 m2 with
      | stuck => rw [ht] at e2; cases e2
      | exc C ks es m4 => rw [ht] at e2; cases e2
      | ok b m4 =>
        rw [ht] at e2
        intro b' H4 ad4 ch4 t4 eb
        cases eb
        cases b with
        | false =>
          refine iteF ⟨by omega, m4.take (m1.length + 1), ?_, ?_, e2⟩
          · obtain ⟨tt, rfl, _⟩ := ch4.pre
            exact ch3.trans ch4.cut
          · obtain ⟨tt, rfl, _⟩ := ch4.pre
            have q := t4.cut (n := m1.length + 1)
            rw [List.take_append_of_le_length (by simp; omega), List.take_of_length_le (by simp; omega)] at q
            exact q
        | true =>
          refine iteT ⟨g3, ad4, m4, s3.ch ch4, t4, ?_⟩
          cases he : me g3 m4 with
          | stuck => simp only [he] at e2; cases e2
          | exc C ks es m5 => simp only [he] at e2; cases e2
          | ok y5 m5 =>
            simp only [he] at e2
            intro y H5 ad5 ch5 t5 dy
            cases y5 with
            | cel j => cases e2
            | scr j => cases e2
            | exn _ _ => cases e2
            | d y5 =>
              simp only at e2
              split at e2
              · rename_i acc hacc
                split at e2
                · rename_i hl
                  have ch35 : Ch H3 (ad1 ++ [D]) H5 ad5 := ch4.trans ch5
                  obtain ⟨tt, rfl, _⟩ := ch35.pre
                  have hDi : (ad1 ++ [D] ++ tt)[m1.length]? = some D := by
                    rw [List.getElem?_append_left (by simp; omega), List.getElem?_append_right (by omega), hlen]
                    simp
                  obtain ⟨p', ep', us, hu, tu⟩ := t5.addr hacc
                  rw [hDi] at ep'
                  cases ep'
                  have q := t5.cut (n := m1.length + 1)
                  rw [List.take_append_of_le_length (by simp; omega), List.take_of_length_le (by simp; omega)] at q
                  have hDi2 : (ad1 ++ [D])[m1.length]? = some D := by
                    rw [List.getElem?_append_right (by omega), hlen]
                    simp
                  have sub : ∀ b ∈ ad1 ++ [D], b ∈ ad1 ++ [D] ++ tt := fun b hb => List.mem_append_left _ hb
                  obtain ⟨c6, s6⟩ := q.wr hDi2 ((tu.sub sub).append (.cons ((d_of dy).sub sub) .nil))
                  exact ⟨us, hu, by rw [tu.length, line]; exact hl, by omega, _, (ch3.trans ch35.cut).trans c6, s6, e2⟩
                · cases e2
              · cases e2
  · have e : i = ds.length := by omega
    subst e
    rw [List.drop_length] at e2
    cases e2
    exact .inl ⟨w.2, hfin H ch2 t2⟩
theorem lcL_noexc {n : Nat} {g : Gm} {t : MG} {mt : MT} {me : ME} {C : Str} {ks : List Str} {es : List D} {mf : Mu} : ∀ (ds : List D) (m : Mu), lcL n g t mt me ds m = .exc C ks es mf → False
  | [], m, h => by cases h
  | d :: ds, m, h => by
    unfold lcL at h
    split at h
    · cases h
    · split at h
      · split at h
        · split at h
          · split at h
            · exact lcL_noexc ds _ h
            · cases h
          · cases h
        · cases h
      · exact lcL_noexc ds _ h
      · cases h
theorem mLc_run {vs : List Nat} {mi : MI} {a : MG} {mt : MT} {me : ME} {t : TG} (hd : GD c (wBlk vs) t a) {σ : L2.St} {H : Hp} {Q : VK} (h : lft c W (mLc vs mi a mt me) σ H Q) : tLc (lftI c W mi) t (lftT c W0 mt) (lft c W0 me) vs σ H Q := by
  obtain ⟨g, ad, mu, hS, hT, o⟩ := h
  refine ⟨g, ad, mu, hS, hT, OutG.imp (OutG.bd (rel := fun H' ad' J ds => Wk c ds J H' ad') o) fun J H1 ⟨ad1, m1, ds, ch1, t1, wk, o1⟩ D hD => ?_⟩
  cases hl : lcL m1.length (wipeG g vs) a mt me ds (m1 ++ [.lst []]) with
  | stuck => simp only [hl, R.bd] at o1; exact o1.elim
  | exc C ks es mf =>
    -- a comprehension's loop never ends so
    exfalso
    exact lcL_noexc _ _ hl
  | ok u mf =>
    simp only [hl, R.bd] at o1
    refine lc_run (fun _ _ _ _ => True) hd ds m1 wk (hS.ch ch1) t1 D hD mf hl fun H2 ch2 t2 => ?_
    split at o1
    · rename_i acc hacc
      have hlen : ad1.length = m1.length := t1.len
      have hDi : (ad1 ++ [D])[m1.length]? = some D := by
        rw [List.getElem?_append_right (by omega), hlen]; simp
      obtain ⟨p', ep', us, hu, tu⟩ := t2.addr hacc
      rw [hDi] at ep'
      cases ep'
      have q := t2.cut (n := m1.length)
      rw [List.take_append_of_le_length (by omega), List.take_of_length_le (by omega)] at q
      have hn : D ∉ ad1 := t1.free hD
      exact o1 _ H2 ad1 ch2.cut q (.d (.lst hn hu (tu.sub fun b hb => List.mem_append_left _ hb)))
    · exact o1.elim
theorem mLcC_run {vs : List Nat} {mi : MI} {a : MG} {mt : MT} {me : ME} {t : TG} (hd : GD c (wBlk vs) t a) {σ : L2.St} {H : Hp} {Q : VK} (h : lft c W (mLcC vs mi a mt me) σ H Q) : tLc (lftI c W mi) t (lftT c W0 mt) (lft c W0 me) vs σ H Q := by
  obtain ⟨g, ad, mu, hS, hT, o⟩ := h
  refine ⟨g, ad, mu, hS, hT, OutG.imp (OutG.bd (rel := fun H' ad' J ds => Wk c ds J H' ad') o) fun J H1 ⟨ad1, m1, ds, ch1, t1, wk, o1⟩ D hD => ?_⟩
  cases hl : lcL m1.length (wipeG g vs) a mt me ds (m1 ++ [.lst []]) with
  | stuck => simp only [hl, R.bd] at o1; exact o1.elim
  | exc C ks es mf => exact (lcL_noexc _ _ hl).elim
  | ok u mf =>
    simp only [hl, R.bd] at o1
    refine lc_run (fun _ _ _ _ => True) hd ds m1 wk (hS.ch ch1) t1 D hD mf hl fun H2 ch2 t2 => ?_
    split at o1
    · have hlen : ad1.length = m1.length := t1.len
      have hDi : (ad1 ++ [D])[m1.length]? = some D := by
        rw [List.getElem?_append_right (by omega), hlen]; simp
      exact o1 _ H2 (ad1 ++ [D]) ch2 t2 (.cel hDi)
    · exact o1.elim
def mYes : MT := fun _ mu => .ok true mu
theorem dts_nil : PTs X [] (lftT c W mYes) := ⟨fun pins s σ H Q I h => pts_nil.run pins s σ H Q I (by
  obtain ⟨g, ad, mu, hS, hT, o⟩ := h
  exact o true H ad (.refl _ _) hT rfl)⟩
theorem dts_one {t : Expr} {m : MT} (h : PT X t (lftT c W m)) : PTs X [t] (lftT c W m) := pts_one h
theorem de_lc {elt tg iter : Expr} {ifs : List Expr} {scope : Scope} {own : List (Str × Nat)} {pos : Pos} {mi : MI} {t : TG} {a : MG} {mt : MT} {me : ME} (hc : X.calm = true) (hN : X.N.Nodup) (hi : PI X tg iter (lftI c W mi)) (ok : BlkOk X.N X.env.scope scope own)
    (hg : ∀ (s : Shared) (H : Hp) (C : Addr) (cl : List (Str × Addr)) (fp : List Addr), PG (X.blk s H scope (compEnvC scope cl C X.env) fp) tg t) (hd : GD c (wBlk (own.map (·.2))) t a)
    (ht : ∀ (s : Shared) (H : Hp) (C : Addr) (cl : List (Str × Addr)) (fp : List Addr), PTs (X.blk s H scope (compEnvC scope cl C X.env) fp) ifs (lftT c W0 mt))
    (he : ∀ (s : Shared) (H : Hp) (C : Addr) (cl : List (Str × Addr)) (fp : List Addr), PE (X.blk s H scope (compEnvC scope cl C X.env) fp) elt (lft c W0 me)) (hs : ∀ x, foldedSetIterable iter X.env x = pure x := by intro _; rfl) :
    PE X (.ListComp elt [⟨tg, iter, ifs, 0⟩] scope pos) (lft c W (mLc (own.map (·.2)) mi a mt me)) := (pe_lc hc hN hi ok hg ht he hs).weak fun σ H Q h => mLc_run hd h
theorem de_lcC {elt tg iter : Expr} {ifs : List Expr} {scope : Scope} {own : List (Str × Nat)} {pos : Pos} {mi : MI} {t : TG} {a : MG} {mt : MT} {me : ME} (hc : X.calm = true) (hN : X.N.Nodup) (hi : PI X tg iter (lftI c W mi)) (ok : BlkOk X.N X.env.scope scope own)
    (hg : ∀ (s : Shared) (H : Hp) (C : Addr) (cl : List (Str × Addr)) (fp : List Addr), PG (X.blk s H scope (compEnvC scope cl C X.env) fp) tg t) (hd : GD c (wBlk (own.map (·.2))) t a)
    (ht : ∀ (s : Shared) (H : Hp) (C : Addr) (cl : List (Str × Addr)) (fp : List Addr), PTs (X.blk s H scope (compEnvC scope cl C X.env) fp) ifs (lftT c W0 mt))
    (he : ∀ (s : Shared) (H : Hp) (C : Addr) (cl : List (Str × Addr)) (fp : List Addr), PE (X.blk s H scope (compEnvC scope cl C X.env) fp) elt (lft c W0 me)) (hs : ∀ x, foldedSetIterable iter X.env x = pure x := by intro _; rfl) :
    PE X (.ListComp elt [⟨tg, iter, ifs, 0⟩] scope pos) (lft c W (mLcC (own.map (·.2)) mi a mt me)) := (pe_lc hc hN hi ok hg ht he hs).weak fun σ H Q h => mLcC_run hd h
/-- name = [..], the name a local, on one line -/
theorem ds_setLc {i : Nat} {y : Str} {py : Pos} {elt tg iter : Expr} {ifs : List Expr} {scope : Scope} {own : List (Str × Nat)} {pos spos : Pos} {mi : MI} {t : TG} {a : MG} {mt : MT} {me : ME} (hc : X.calm = true) (hN : X.N.Nodup) (hy : X.N[i]? = some y) (hyl : X.env.scope.names.lookup y = some .local)
    (hsw : swapsWith (.ListComp elt [⟨tg, iter, ifs, 0⟩] scope pos) (some (.Name y py)) spos.line X.env = pure true) (hi : PI X tg iter (lftI c W mi)) (ok : BlkOk X.N X.env.scope scope own)
    (hg : ∀ (s : Shared) (H : Hp) (C : Addr) (cl : List (Str × Addr)) (fp : List Addr), PG (X.blk s H scope (compEnvC scope cl C X.env) fp) tg t) (hd : GD c (wBlk (own.map (·.2))) t a)
    (ht : ∀ (s : Shared) (H : Hp) (C : Addr) (cl : List (Str × Addr)) (fp : List Addr), PTs (X.blk s H scope (compEnvC scope cl C X.env) fp) ifs (lftT c W0 mt))
    (he : ∀ (s : Shared) (H : Hp) (C : Addr) (cl : List (Str × Addr)) (fp : List Addr), PE (X.blk s H scope (compEnvC scope cl C X.env) fp) elt (lft c W0 me)) (hs : ∀ x, foldedSetIterable iter X.env x = pure x := by intro _; rfl) :
    PS X (.Assign [.Name y py] (.ListComp elt [⟨tg, iter, ifs, 0⟩] scope pos) spos) (lftS c W (mAsg (mLc (own.map (·.2)) mi a mt me) (gN i))) :=
  (ps_setLc hc hN hy hyl hsw hi ok hg ht he hs).weak fun D σ H h => mLc_run hd (asg_run (t := gName i) gd_nm h)

theorem ds_setLcC {i : Nat} {y : Str} {py : Pos} {elt tg iter : Expr} {ifs : List Expr} {scope : Scope} {own : List (Str × Nat)} {pos spos : Pos} {mi : MI} {t : TG} {a : MG} {mt : MT} {me : ME} (hc : X.calm = true) (hN : X.N.Nodup) (hy : X.N[i]? = some y) (hyl : X.env.scope.names.lookup y = some .local)
    (hsw : swapsWith (.ListComp elt [⟨tg, iter, ifs, 0⟩] scope pos) (some (.Name y py)) spos.line X.env = pure true) (hi : PI X tg iter (lftI c W mi)) (ok : BlkOk X.N X.env.scope scope own)
    (hg : ∀ (s : Shared) (H : Hp) (C : Addr) (cl : List (Str × Addr)) (fp : List Addr), PG (X.blk s H scope (compEnvC scope cl C X.env) fp) tg t) (hd : GD c (wBlk (own.map (·.2))) t a)
    (ht : ∀ (s : Shared) (H : Hp) (C : Addr) (cl : List (Str × Addr)) (fp : List Addr), PTs (X.blk s H scope (compEnvC scope cl C X.env) fp) ifs (lftT c W0 mt))
    (he : ∀ (s : Shared) (H : Hp) (C : Addr) (cl : List (Str × Addr)) (fp : List Addr), PE (X.blk s H scope (compEnvC scope cl C X.env) fp) elt (lft c W0 me)) (hs : ∀ x, foldedSetIterable iter X.env x = pure x := by intro _; rfl) :
    PS X (.Assign [.Name y py] (.ListComp elt [⟨tg, iter, ifs, 0⟩] scope pos) spos) (lftS c W (mAsg (mLcC (own.map (·.2)) mi a mt me) (gN i))) :=
  (ps_setLc hc hN hy hyl hsw hi ok hg ht he hs).weak fun D σ H h => mLcC_run hd (asg_run (t := gName i) gd_nm h)

/-! ### a def -/
def popR (n : Nat) (a : Ar) (m : Mu) : R Ar := match a with
  | .d x => .ok (.d x) (m.take n)
  | .cel i => if i < n then .ok (.cel i) (m.take n) else (match m[i]? with
    | some cl => .ok (.cel n) (m.take n ++ [cl])
    | none => .stuck)
  | _ => .stuck
/-- a def's mirror by that of its body: N slots -/
def fnM (N : Nat) (m : MS) : List Ar → Mu → R Ar := fun xs mu => match m (xs.map some ++ List.replicate (N - xs.length) none) mu with
  | .nx _ m' => popR mu.length (.d .non) m'
  | .rt a m' => popR mu.length a m'
  | .exc C ks ds _ m' => .exc C ks ds (m'.take mu.length)
  | _ => .stuck
theorem pop_run {H H' : Hp} {ad ad' : List Addr} {mu m' : Mu} {v : V} {a : Ar} {Q : VK} {W' : WX} {σ : L2.St} (hT : Sto c H ad mu) (ch : Ch H ad H' ad') (t : Sto c H' ad' m') (x : An c H' ad' v a) (o : OutG c W' σ H ad (An c) (popR mu.length a m') Q) : Q v H' := by
  obtain ⟨tt, rfl, htt⟩ := ch.pre
  have hlen := hT.len
  have cut : Sto c H' ad (m'.take mu.length) := by
    have q := t.cut (n := mu.length)
    rw [List.take_append_of_le_length (by omega), List.take_of_length_le (by omega)] at q
    exact q
  have sub : ∀ b ∈ ad, b ∈ ad ++ tt := fun b hb => List.mem_append_left _ hb
  unfold popR at o
  split at o
  · exact o v H' ad ch.cut cut (.d ((d_of x).sub sub))
  · rename_i i
    obtain ⟨p, rfl, ep⟩ := cel_of x
    split at o
    · rename_i hi
      rw [List.getElem?_append_left (by omega)] at ep
      exact o _ H' ad ch.cut cut (.cel ep)
    · rename_i hi
      split at o
      · rename_i cl hcl
        have hp : p ∈ tt := by
          rw [List.getElem?_append_right (by omega)] at ep
          exact List.mem_of_getElem? ep
        have hpn : H p = none := htt p hp
        have hpad : p ∉ ad := hT.free hpn
        refine o _ H' (ad ++ [p]) ⟨ch.keep, ch.there, [p], rfl, fun b hb => by rw [List.mem_singleton.mp hb]; exact hpn⟩ ?_ (.cel (by rw [← hlen]; simp))
        have sub2 : ∀ b ∈ ad ++ [p], b ∈ ad ++ tt := fun b hb => by
          rcases List.mem_append.mp hb with h1 | h1
          · exact List.mem_append_left _ h1
          · rw [List.mem_singleton.mp h1]; exact List.mem_append_right _ hp
        have lt : (m'.take mu.length).length = ad.length := by rw [← cut.len]
        refine ⟨?_, by simp only [List.length_append, List.length_singleton, lt], fun j b cl' h1 h2 => ?_⟩
        · rw [List.nodup_append]
          exact ⟨cut.nd, by simp, fun b hb d hd => by rw [List.mem_singleton.mp hd]; exact fun e => hpad (e ▸ hb)⟩
        · by_cases hj : j < ad.length
          · rw [List.getElem?_append_left hj] at h1
            rw [List.getElem?_append_left (by omega)] at h2
            rw [List.getElem?_take] at h2
            split at h2
            · refine (t.at_ j b cl' ?_ h2).sub sub2
              rw [List.getElem?_append_left hj]; exact h1
            · cases h2
          · have e : j = ad.length := by
              have := (List.getElem?_eq_some_iff.mp h1).1
              simp at this
              omega
            subst e
            rw [List.getElem?_append_right (Nat.le_refl _)] at h1
            rw [List.getElem?_append_right (by omega)] at h2
            rw [lt] at h2
            simp at h1 h2
            subst h1 h2
            exact (t.at_ i p cl ep hcl).sub sub2
      · exact o.elim
  · exact o.elim
theorem start_sl {H : Hp} {ad : List Addr} {vs : List V} {xs : List Ar} {N : List Str} (h : Ans c H ad vs xs) : Sl c H ad (L2.start N vs) (xs.map some ++ List.replicate (N.length - xs.length) none) := by
  have hl := h.length
  refine ⟨by simp [L2.start, hl], fun i x e => ?_⟩
  by_cases hi : i < xs.length
  · rw [List.getElem?_append_left (by simpa using hi), List.getElem?_map] at e
    cases q : xs[i]? with
    | none => rw [q] at e; cases e
    | some y =>
      rw [q] at e
      cases e
      obtain ⟨v, hv, a⟩ := h.get' q
      refine ⟨v, ?_, a⟩
      unfold L2.start
      rw [List.getElem?_append_left (by simpa [hl] using hi), List.getElem?_map, hv]
      rfl
  · rw [List.getElem?_append_right (by simpa using hi)] at e
    rw [List.getElem?_replicate] at e
    split at e
    · cases e
    · cases e
end
section
variable {P : Program} {w : World} {K : PySem.W.Frag} {mg : Str → Option Value} {base : Heap}
/-- THE RULE for a def by its mirror -/
theorem dfn {x qual : Str} {st : Stmt} {f : Addr} {fd : FuncData} {N ps : List Str} {k n : Nat} {m : MS} (F : Fun K x qual st f fd) (S : FnScope N ps (defScope st)) (hn : ps.length = n)
    (hbody : ∀ (cdv : Value) (A : Around) (outer : List Env) (s : Shared) (H : Hp) (E : XK), Room k (A.deeper (envOfC qual (defScope st) s.heap.objs.size f cdv)) → Takes (cxOf (L2.CX P w) P w K mg base N qual (defScope st) f cdv A outer s H E) (fun cls d _ H => E cls d H) →
      PassesOwn (model (cxOf (L2.CX P w) P w K mg base N qual (defScope st) f cdv A outer s H E).prog (cxOf (L2.CX P w) P w K mg base N qual (defScope st) f cdv A outer s H E).w) (cxOf (L2.CX P w) P w K mg base N qual (defScope st) f cdv A outer s H E).A (cxOf (L2.CX P w) P w K mg base N qual (defScope st) f cdv A outer s H E).env (cxOf (L2.CX P w) P w K mg base N qual (defScope st) f cdv A outer s H E).xe →
      PSs (cxOf (L2.CX P w) P w K mg base N qual (defScope st) f cdv A outer s H E) (defBody st) (lftS ⟨K, mg, none⟩ (fun cls d _ H => E cls d H) m)) :
    FnOk P w K mg base (L2.CX P w) (k + 1) f fd ps (spOf ⟨K, mg, none⟩ n (fnM N.length m)) := by
  refine F.okX S (fun vs H Q E h => h.1.trans hn.symm) (fun cdv A outer s H vs Q E hr h => ⟨_, hbody cdv A outer s H E hr (takes_of rfl rfl rfl rfl) (passes_of rfl), ?_⟩)
  obtain ⟨hl, xs, ad, mu, hx, hT, o⟩ := h
  refine ⟨_, ad, mu, start_sl hx, hT, ?_⟩
  unfold fnM at o
  cases hb : m (xs.map some ++ List.replicate (N.length - xs.length) none) mu with
  | nx g' m' =>
    rw [hb] at o
    exact fun σ' H' ad' a b d => pop_run hT a d (.d .non) o
  | rt y m' =>
    rw [hb] at o
    exact fun v H' ad' a b d => pop_run hT a b d o
  | exc C ks ds g' m' =>
    rw [hb] at o
    intro Ca x0 fs σ' H' ad' e0 ch s0 t0 nx hx0 hk hds
    obtain ⟨tt, rfl, htt⟩ := ch.pre
    have hlen := hT.len
    have cut : Sto ⟨K, mg, none⟩ H' ad (m'.take mu.length) := by
      have q := t0.cut (n := mu.length)
      rw [List.take_append_of_le_length (by omega), List.take_of_length_le (by omega)] at q
      exact q
    have sub : ∀ b ∈ ad, b ∈ ad ++ tt := fun b hb => List.mem_append_left _ hb
    exact o Ca x0 fs H' ad e0 ch.cut cut (fun z => nx (sub _ z)) hx0 hk (hds.sub sub)
  | bk g' m' => rw [hb] at o; exact o.elim
  | ct g' m' => rw [hb] at o; exact o.elim
  | stuck => rw [hb] at o; exact o.elim
end
end Dw
namespace Dw
open PySem PySem.Spec PyProof.Rows L2
/-! ### attributes -/
def lkF : List Str → List D → Str → Option D
  | k :: ks, d :: ds, f => if f == k then some d else lkF ks ds f
  | _, _, _ => none
def inF (ks : List Str) (f : Str) : Bool := ks.any fun k => f == k
section
variable {X : Cx} {c : Ct} {W : WX}
theorem lkF_ok {H : Hp} {ad : List Addr} {f : Str} : ∀ {fs : List (Str × V)} {ds : List D} {d : D}, Dns c H ad (fs.map (·.2)) ds → lkF (fs.map (·.1)) ds f = some d → ∃ v, fs.lookup f = some v ∧ Dn c H ad v d
  | [], _, _, _, e => by cases e
  | (k, v) :: r, _ :: ds, d, .cons a t, e => by
    have e' : (if f == k then some _ else lkF (r.map (·.1)) ds f) = some d := e
    rw [List.lookup_cons]
    cases h : f == k with
    | true => rw [h, if_pos rfl] at e'; cases e'; exact ⟨v, rfl, a⟩
    | false =>
      rw [h, if_neg Bool.false_ne_true] at e'
      exact lkF_ok t e'
theorem inF_no {f : Str} : ∀ {fs : List (Str × V)}, inF (fs.map (·.1)) f = false → fs.lookup f = none
  | [], _ => rfl
  | (k, v) :: r, e => by
    have e' : (f == k || inF (r.map (·.1)) f) = false := e
    rw [Bool.or_eq_false_iff] at e'
    rw [List.lookup_cons, e'.1]
    exact inF_no e'.2
/-- the fields of an instance of C, of data or of a cell -/
def insOf (C : Str) (mu : Mu) : Ar → Option (List Str × List D)
  | .d (.ins C' ks ds) => if C' = C then some (ks, ds) else none
  | .cel i => match mu[i]? with
    | some (.ins C' ks ds) => if C' = C then some (ks, ds) else none
    | _ => none
  | _ => none
theorem insOf_ok {H : Hp} {ad : List Addr} {mu : Mu} {C : Str} {v : V} {x : Ar} {ks : List Str} {ds : List D} (s : Sto c H ad mu) (a : An c H ad v x) (h : insOf C mu x = some (ks, ds)) : ∃ p Ca dx fs, v = .ref p ∧ c.mg C = some (.ref Ca) ∧ H p = some (.ins Ca dx fs) ∧ fs.map (·.1) = ks ∧ Dns c H ad (fs.map (·.2)) ds := by
  unfold insOf at h
  split at h
  · split at h
    · rename_i hC
      cases h
      subst hC
      cases d_of a with
      | ins n m e k t => exact ⟨_, _, _, _, rfl, m, e, k, t⟩
    · cases h
  · split at h
    · rename_i hm
      split at h
      · rename_i hC
        cases h
        subst hC
        obtain ⟨p, rfl, ep⟩ := cel_of a
        obtain ⟨p', ep', Ca, dx, fs, m, e, k, t⟩ := s.addr hm
        rw [ep] at ep'
        cases ep'
        exact ⟨p, Ca, dx, fs, rfl, m, e, k, t⟩
      · cases h
    · cases h
  · cases h
def mFld (C f : Str) (e : ME) : ME := fun g mu => (e g mu).bd fun x m => match insOf C m x with
  | some (ks, ds) => (match lkF ks ds f with
    | some d => .ok (.d d) m
    | none => .stuck)
  | none => .stuck
theorem de_fld {C : Str} {Ca : Addr} {e : Expr} {f : Str} {m : ME} {pos : Pos} (hm : c.mg C = some (.ref Ca)) (hC : Cls X.K Ca) (hf : NoAttr X.K Ca f) (he : PE X e (lft c W m)) (hb : attributeBase e f X.env (eval e X.env) = eval e X.env := by rfl) : PE X (.Attribute e f pos) (lft c W (mFld C f m)) :=
  (pe_fld he hb).weak fun σ H Q ⟨g, ad, mu, hS, hT, o⟩ => by
    refine ⟨g, ad, mu, hS, hT, OutG.imp (OutG.bd (rel := An c) o) fun v H1 ⟨ad1, mu1, x, ch1, t1, dx, o1⟩ => ?_⟩
    split at o1
    · rename_i ks ds hi
      split at o1
      · rename_i d hl
        obtain ⟨p, Ca', dx', fs, rfl, m', e', k, t⟩ := insOf_ok t1 dx hi
        have : Ca' = Ca := by rw [hm] at m'; cases m'; rfl
        subst this
        subst k
        obtain ⟨w, hw, dw⟩ := lkF_ok t hl
        exact ⟨p, Ca', dx', fs, w, rfl, e', hC, hf, hw, o1 w H1 ad1 (.refl _ _) t1 (.d dw)⟩
      · exact o1.elim
    · exact o1.elim
/-! self.f = e -/
def putK (f : Str) (d : D) : List Str → List D → Option (List Str × List D)
  | [], [] => some ([f], [d])
  | k :: ks, x :: ds => if k = f then some (k :: ks, d :: ds) else (match putK f d ks ds with
    | some (ks', ds') => some (k :: ks', x :: ds')
    | none => none)
  | _, _ => none
theorem putK_ok {H : Hp} {ad : List Addr} {f : Str} {v : V} {d : D} (a : Dn c H ad v d) : ∀ {fs : List (Str × V)} {ds ds' : List D} {ks' : List Str}, Dns c H ad (fs.map (·.2)) ds → putK f d (fs.map (·.1)) ds = some (ks', ds') → (putF f v fs).map (·.1) = ks' ∧ Dns c H ad ((putF f v fs).map (·.2)) ds'
  | [], _, _, _, .nil, e => by cases e; exact ⟨rfl, .cons a .nil⟩
  | (k, w) :: r, x :: ds, ds', ks', .cons b t, e => by
    have e' : (if k = f then some (k :: r.map (·.1), d :: ds) else (match putK f d (r.map (·.1)) ds with
      | some (ks', ds') => some (k :: ks', x :: ds')
      | none => none)) = some (ks', ds') := e
    by_cases h : k = f
    · rw [if_pos h] at e'
      cases e'
      unfold putF
      rw [if_pos h]
      exact ⟨rfl, .cons a t⟩
    · rw [if_neg h] at e'
      split at e'
      · rename_i ks2 ds2 h2
        cases e'
        obtain ⟨q1, q2⟩ := putK_ok a t h2
        unfold putF
        rw [if_neg h]
        exact ⟨by rw [List.map_cons, q1], .cons b q2⟩
      · cases e'
def mSetF (C f : Str) (e o : ME) : MS := fun g mu => (e g mu).st g fun x m => (o g m).st g fun ov m1 => match x, ov with
  | .d x, .cel i => (match m1[i]? with
    | some (.ins C' ks ds) => if C' = C ∧ ks.length < 1000 then (match putK f x ks ds with
      | some (ks', ds') => .nx g (m1.set i (.ins C ks' ds'))
      | none => .stuck) else .stuck
    | _ => .stuck)
  | _, _ => .stuck
theorem ds_setF {C : Str} {Ca : Addr} {eo e : Expr} {f : Str} {m mo : ME} {pos pos' : Pos} (hm : c.mg C = some (.ref Ca)) (hC : Cls X.K Ca) (hf : NoAttr X.K Ca f) (he : PE X e (lft c W m)) (ho : PE X eo (lft c W mo)) (hs : swapsWith e (some (.Attribute eo f pos')) pos.line X.env = pure false := by rfl) : PS X (.Assign [.Attribute eo f pos'] e pos) (lftS c W (mSetF C f m mo)) :=
  (ps_fld ho he hs).weak fun D σ H ⟨g, ad, mu, hS, hT, o⟩ => by
    refine ⟨g, ad, mu, hS, hT, OutG.imp (OutS.bd (rel := An c) hS o) fun v H1 ⟨ad1, mu1, x, ch1, t1, dx, o1⟩ => ?_⟩
    refine ⟨g, ad1, mu1, hS.ch ch1, t1, OutG.imp (OutS.bd (rel := An c) (hS.ch ch1) o1) fun ov H2 ⟨ad2, mu2, xo, ch2, t2, dxo, o2⟩ => ?_⟩
    split at o2
    · rename_i x i
      split at o2
      · rename_i C' ks ds hcl
        split at o2
        · rename_i hcc
          split at o2
          · rename_i ks' ds' hp
            obtain ⟨hc1, hc2⟩ := hcc
            subst hc1
            obtain ⟨p, rfl, ep⟩ := cel_of dxo
            obtain ⟨p', ep', Ca', dx', fs, m', e', k, t⟩ := t2.addr hcl
            rw [ep] at ep'
            cases ep'
            have : Ca' = Ca := by rw [hm] at m'; cases m'; rfl
            subst this
            subst k
            have hin : p ∈ ad2 := List.mem_of_getElem? ep
            have a2 := d_of (dx.ch ch2)
            obtain ⟨q1, q2⟩ := putK_ok a2 t hp
            refine ⟨p, Ca', dx', fs, rfl, e', hC, hf, by simpa using hc2, o2 σ _ ad2 (.put hin) (((hS.ch ch1).ch ch2).ch (.put hin)) (t2.put ep ⟨Ca', dx', _, m', upd_same, q1, q2.ch (.put hin)⟩)⟩
          · exact o2.elim
        · exact o2.elim
      · exact o2.elim
    · exact o2.elim

/-! ### C(..) -/
def mMake (C : Str) (n : Nat) (F : List Ar → Mu → R Ar) (a : MA) : ME := fun g mu => (a g mu).bd fun xs m => if xs.length = n then (match F (.cel m.length :: xs) (m ++ [.ins C [] []]) with
  | .ok (.d .non) m' => (match m'[m.length]? with
    | some (.ins C' ks ds) => .ok (.d (.ins C' ks ds)) (m'.take m.length)
    | _ => .stuck)
  | .exc C ks ds m' => .exc C ks ds (m'.take m.length)
  | _ => .stuck) else .stuck
/-- C(..) in a body whose raised errors are wished for at the slots -/
def tMakeS (C : Addr) (sp : Sp) (E : L2.St → XK) (t : TA) : TE := fun σ H Q => t σ H fun vs H1 => ∀ x dx, H1 x = none → H1 dx = none → dx ≠ x →
  sp (.ref x :: vs) (upd (upd H1 dx (.own x)) x (.ins C dx [])) (fun v H2 => v = .non ∧ Q (.ref x) H2) (E σ)
theorem pe_makeS {CX : CXT} {k : Nat} {f C : Addr} {fd : FuncData} {ps : List Str} {sp : Sp} {E : L2.St → XK} {x : Str} {p pos : Pos} {e : Expr} {es : List Expr} {t : TA} (M : Mk X.K C f) (G : FnOk X.prog X.w X.K X.mg X.base CX k f fd ps sp) (hr : Room (k + 1) X.A) (hg : Gl X x) (hm : X.mg x = some (.ref C)) (hb : Binds X.K fd ps []) (hx : ∀ σ, PassesAt CX X σ (E σ))
    (ha : PA X (e :: es) t) (hdb : (x == ("__debug__" : Str)) = false := by decide) (he : starEach (e :: es) X.env = (false, eval e X.env) :: starEach es X.env := by rfl) (hpl : (backTo pos (starEach es X.env)).any (·.1) = false := by rfl) :
    PE X (.Call (.Name x p) (e :: es) [] pos) (tMakeS C sp E t) := by
  refine ⟨fun pins s σ H Q I h => ?_⟩
  refine wpAny_Call_Name_kw (ld_glob I hg hm ?_ hdb)
  refine PySem.W.callWith_K (h₀ := X.base) I.ok.mod.kin M.kp (thn (ha.run pos pins s σ H _ I h) fun us s1 ⟨vs, H1, I1, r, q⟩ => ⟨I1.kIn, ?_⟩) he hpl
  have hq := q (s1.heap.objs.size + 1) s1.heap.objs.size (I1.hok.fresh (Nat.le_succ _)) (I1.hok.fresh (Nat.le_refl _)) (Nat.ne_of_lt (Nat.lt_succ_self _))
  have I2 := Inv.made (C := C) I1
  have r2 : Vals (V.ref (s1.heap.objs.size + 1) :: vs) (Value.ref (s1.heap.objs.size + 1) :: us) := .cons rfl r
  have hl : (Value.ref (s1.heap.objs.size + 1) :: us ++ ([] : List Value)).length = ps.length := by
    have q2 := r2.length
    rw [G.len _ _ _ _ hq] at q2
    rw [List.append_nil]
    exact q2.symm
  have hbb := hb _ (Value.ref (s1.heap.objs.size + 1) :: us) I2.kIn hl
  rw [List.append_nil] at hbb
  refine wpAny_call (make_map (f := f) I1.kIn M.makes M.init (beq_iff_eq.mp M.fn) (codeAny_mono (G.run _ X.stack _ _ ⟨Value.ref (s1.heap.objs.size + 1) :: us, []⟩ (Value.ref (s1.heap.objs.size + 1) :: us) _ _ (E σ) (hr.make C us [])
    (I2.env0.make C us []) hbb r2 hq) fun r3 s' hq' => ?_))
  cases r3 with
  | error u => exact hx σ pins _ _ u s' I2 hq'
  | ok fl =>
    cases fl with
    | ret u =>
      obtain ⟨v, H', I3, rv, ev, q3⟩ := I2.after hq'
      subst ev
      exact ⟨rv, ⟨V.ref (s1.heap.objs.size + 1), H', I3, rfl, q3⟩⟩
    | next => exact False.elim hq'
    | brk => exact False.elim hq'
    | cont => exact False.elim hq'
theorem de_make {C : Str} {Ca f : Addr} {k n : Nat} {fd : FuncData} {ps : List Str} {F : List Ar → Mu → R Ar} {p pos : Pos} {e : Expr} {es : List Expr} {ma : MA} (M : Mk X.K Ca f) (G : FnOk X.prog X.w X.K X.mg X.base (L2.CX X.prog X.w) k f fd ps (spOf c (n + 1) F)) (hr : Room (k + 1) X.A) (hg : Gl X C) (hm : X.mg C = some (.ref Ca)) (hmc : c.mg C = some (.ref Ca)) (hb : Binds X.K fd ps []) (tk : Takes X W)
    (ha : PA X (e :: es) (lftA c W ma)) (hdb : (C == ("__debug__" : Str)) = false := by decide) (he : starEach (e :: es) X.env = (false, eval e X.env) :: starEach es X.env := by rfl) (hpl : (backTo pos (starEach es X.env)).any (·.1) = false := by rfl) :
    PE X (.Call (.Name C p) (e :: es) [] pos) (lft c W (mMake C n F ma)) :=
  (pe_makeS (E := WE W) M G hr hg hm hb (fun σ => passAt tk σ) ha hdb he hpl).weak fun σ H Q ⟨g, ad, mu, hS, hT, o⟩ => by
    refine ⟨g, ad, mu, hS, hT, OutG.imp (OutG.bd (rel := Ans c) o) fun vs H1 ⟨ad1, mu1, xs, ch1, t1, dx, o1⟩ x dd hx hdd hne => ?_⟩
    split at o1
    · rename_i hl
      have hx2 : (upd H1 dd (.own x)) x = none := by rw [upd_ne (Ne.symm hne)]; exact hx
      have chd : Ch H1 ad1 (upd H1 dd (.own x)) ad1 := .ex (.new hdd)
      have td := t1.ex (H' := upd H1 dd (.own x)) (.new hdd)
      have chx : Ch H1 ad1 (upd (upd H1 dd (.own x)) x (.ins Ca dd [])) (ad1 ++ [x]) := chd.trans (.new hx2)
      have tx : Sto c (upd (upd H1 dd (.own x)) x (.ins Ca dd [])) (ad1 ++ [x]) (mu1 ++ [.ins C [] []]) := td.new (cl := .ins C [] []) hx2 ⟨Ca, dd, [], hmc, upd_same, rfl, .nil⟩
      have hlen := t1.len
      refine ⟨by rw [List.length_cons, dx.length, hl], .cel mu1.length :: xs, ad1 ++ [x], _, .cons (.cel (by rw [← hlen]; simp)) (dx.ch chx), tx, ?_⟩
      cases hF : F (.cel mu1.length :: xs) (mu1 ++ [.ins C [] []]) with
      | stuck => rw [hF] at o1; exact o1.elim
      | exc C' ks ds m' =>
        rw [hF] at o1
        intro Ca' x' fs H' ad' e' ch' t' nx hx' hk hds
        have chA := chx.trans ch'
        obtain ⟨tt, rfl, _⟩ := chA.pre
        have cut : Sto c H' ad1 (m'.take mu1.length) := by
          have q := t'.cut (n := mu1.length)
          rw [List.take_append_of_le_length (by omega), List.take_of_length_le (by omega)] at q
          exact q
        have sub : ∀ b ∈ ad1, b ∈ ad1 ++ tt := fun b hb => List.mem_append_left _ hb
        exact o1 Ca' x' fs H' ad1 e' chA.cut cut (fun z => nx (sub _ z)) hx' hk (hds.sub sub)
      | ok a m' =>
        rw [hF] at o1
        intro v H' ad' ch' t' av
        cases a with
        | cel i => exact o1.elim
        | scr i => exact o1.elim
        | exn _ _ => exact o1.elim
        | d d0 =>
          cases d0 with
          | non =>
            simp only at o1
            split at o1
            · rename_i C' ks ds hcl
              have ev : v = .non := by cases d_of av; rfl
              subst ev
              refine ⟨rfl, ?_⟩
              have hDi0 : (ad1 ++ [x])[mu1.length]? = some x := by
                rw [List.getElem?_append_right (by omega), hlen]; simp
              have chA := chx.trans ch'
              obtain ⟨t2, ht2, _⟩ := ch'.pre
              have hDi : ad'[mu1.length]? = some x := by
                rw [ht2, List.getElem?_append_left (by simp; omega)]
                exact hDi0
              obtain ⟨tt, rfl, _⟩ := chA.pre
              obtain ⟨p', ep', Ca', dx', fs, m'', e'', k'', t''⟩ := t'.addr hcl
              rw [hDi] at ep'
              cases ep'
              have cut : Sto c H' ad1 (m'.take mu1.length) := by
                have q := t'.cut (n := mu1.length)
                rw [List.take_append_of_le_length (by omega), List.take_of_length_le (by omega)] at q
                exact q
              have sub : ∀ b ∈ ad1, b ∈ ad1 ++ tt := fun b hb => List.mem_append_left _ hb
              exact o1 _ H' ad1 chA.cut cut (.d (.ins (t1.free hx) m'' e'' k'' (t''.sub sub)))
            · exact o1.elim
          | bl _ => exact o1.elim
          | int _ => exact o1.elim
          | str _ => exact o1.elim
          | tup _ => exact o1.elim
          | lst _ => exact o1.elim
          | ins _ _ _ => exact o1.elim
    · exact o1.elim

/-! ### o.m(..) -/
def mMeth (C m : Str) (n : Nat) (F : List Ar → Mu → R Ar) (o : ME) (a : MA) : ME := fun g mu => (o g mu).bd fun ov m1 => match insOf C m1 ov with
  | some (ks, _) => if inF ks m = false then (a g m1).bd fun xs m2 => (if xs.length = n then F (ov :: xs) m2 else .stuck) else .stuck
  | none => .stuck
def tMethSD (C : Addr) (m : Str) (sp : Sp) (E : L2.St → XK) (ta : TE) (t : TA) : TE := fun σ H Q => ta σ H fun x H1 => ∃ a dx fs, x = .ref a ∧ H1 a = some (.ins C dx fs) ∧ fs.lookup m = none ∧
  t σ H1 fun vs H2 => sp (x :: vs) H2 Q (E σ)
theorem pe_methSD {CX : CXT} {k : Nat} {f C : Addr} {fd : FuncData} {ps : List Str} {sp : Sp} {E : L2.St → XK} {m : Str} {pos apos : Pos} {e o : Expr} {es : List Expr} {ta : TE} {t : TA} {pl : Sem Bool} (he : PE X o ta) (hC : Cls X.K C) (hm : Meth X.K C m f) (G : FnOk X.prog X.w X.K X.mg X.base CX k f fd ps sp) (hr : Room k X.A) (hb : Binds X.K fd ps []) (hx : ∀ σ, PassesAt CX X σ (E σ)) (ha : PA X (e :: es) t)
    (hst : starEach (e :: es) X.env = (false, eval e X.env) :: starEach es X.env := by rfl) (hpl : (backTo pos (starEach es X.env)).any (·.1) = false := by rfl)
    (ht : eval (.Call (.Attribute o m apos) (e :: es) [] pos) X.env = (do
      let ov ← eval o X.env
      standAt apos.atName
      let (f, first) ← holding [ov] (getMethod ov m pl)
      callWith pos f first (backTo pos (starEach (e :: es) X.env)) (backToKw pos (keywordEach [] X.env))) := by rfl) :
    PE X (.Call (.Attribute o m apos) (e :: es) [] pos) (tMethSD C m sp E ta t) := by
  refine ⟨fun pins s σ H Q I h => ?_⟩
  refine PySem.W.methodCall_KW (pl := pl) (thn (he.run pins s σ H _ I h) fun u s1 ⟨x, H1, I1, rx, a, dx, fs, ex, ea, l, q⟩ => ?_) ht
  subst ex
  obtain rfl : u = Value.ref a := rx
  refine getmeth_ok I1 ea hC hm l ?_
  refine PySem.W.callWith_K (first := [.ref a]) (h₀ := X.base) I.ok.mod.kin hm.kp (thn (ha.run pos pins s1 σ H1 _ I1 q) fun us s2 ⟨vs, H2, I2, r, q2⟩ => ⟨I2.kIn, ?_⟩) hst hpl
  exact run_fnS (us := .ref a :: us) (vs := .ref a :: vs) G hr hb (hx σ) I2 (.cons rfl r) q2
theorem de_meth {C m : Str} {Ca f : Addr} {k n : Nat} {fd : FuncData} {ps : List Str} {F : List Ar → Mu → R Ar} {pos apos : Pos} {e o : Expr} {es : List Expr} {mo : ME} {ma : MA} {pl : Sem Bool} (hmc : c.mg C = some (.ref Ca)) (hC : Cls X.K Ca) (hm : Meth X.K Ca m f) (G : FnOk X.prog X.w X.K X.mg X.base (L2.CX X.prog X.w) k f fd ps (spOf c (n + 1) F)) (hr : Room k X.A) (hb : Binds X.K fd ps []) (tk : Takes X W)
    (ho : PE X o (lft c W mo)) (ha : PA X (e :: es) (lftA c W ma))
    (hst : starEach (e :: es) X.env = (false, eval e X.env) :: starEach es X.env := by rfl) (hpl : (backTo pos (starEach es X.env)).any (·.1) = false := by rfl)
    (ht : eval (.Call (.Attribute o m apos) (e :: es) [] pos) X.env = (do
      let ov ← eval o X.env
      standAt apos.atName
      let (f, first) ← holding [ov] (getMethod ov m pl)
      callWith pos f first (backTo pos (starEach (e :: es) X.env)) (backToKw pos (keywordEach [] X.env))) := by rfl) :
    PE X (.Call (.Attribute o m apos) (e :: es) [] pos) (lft c W (mMeth C m n F mo ma)) :=
  (pe_methSD (E := WE W) ho hC hm G hr hb (fun σ => passAt tk σ) ha hst hpl ht).weak fun σ H Q ⟨g, ad, mu, hS, hT, o⟩ => by
    refine ⟨g, ad, mu, hS, hT, OutG.imp (OutG.bd (rel := An c) o) fun v H1 ⟨ad1, mu1, x, ch1, t1, dx, o1⟩ => ?_⟩
    split at o1
    · rename_i ks ds hi
      split at o1
      · rename_i hn
        obtain ⟨p, Ca', dx', fs, rfl, m', e', k, t⟩ := insOf_ok t1 dx hi
        have : Ca' = Ca := by rw [hmc] at m'; cases m'; rfl
        subst this
        subst k
        refine ⟨p, dx', fs, rfl, e', inF_no hn, g, ad1, mu1, hS.ch ch1, t1, OutG.imp (OutG.bd (rel := Ans c) o1) fun vs H2 ⟨ad2, mu2, xs, ch2, t2, dxs, o2⟩ => ?_⟩
        split at o2
        · rename_i hl
          exact ⟨by rw [List.length_cons, dxs.length, hl], x :: xs, ad2, mu2, .cons (dx.ch ch2) dxs, t2, OutG.wis o2 fun cls d H' h => h⟩
        · exact o2.elim
      · exact o1.elim
    · exact o1.elim
end
end Dw
namespace Dw
open PySem PySem.Spec PyProof.Rows L2
/-! ### own errors with one field, set by __init__ -/
def spX (C : Addr) (f : Str) : Sp := fun vs H Q _ => ∃ (a : Addr) (v : V), vs = [.ref a, v] ∧ H a = some (exo a C none) ∧ ∀ dx, H dx = none → dx ≠ a → Q .non (upd (upd H dx (exd dx [(f, v)])) a (exo a C (some dx)))
/-- what is known of such a class -/
structure XC (K : PySem.W.Frag) (mg : Str → Option Value) (P : Program) (w : World) (base : Heap) (C f : Str) : Prop where
  ex : ∃ (Ca fI : Addr) (fd : FuncData), mg C = some (.ref Ca) ∧ OexC K Ca ∧ PySem.W.findIn K (.ref Ca) "__init__" = some (some (.ref fI)) ∧ PySem.W.typeIn K (.ref fI) = some (.type "function") ∧
    FnOk P w K mg base (L2.CX P w) 1 fI fd ["self", f] (spX Ca f) ∧ Binds K fd ["self", f] []
section
variable {P : Program} {w : World} {K : PySem.W.Frag} {mg : Str → Option Value} {base : Heap}
theorem xinit {qual f : Str} {st : Stmt} {fI Ca : Addr} {fd : FuncData} (F : Fun K "__init__" qual st fI fd) (S : FnScope ["self", f] ["self", f] (defScope st)) (T : OexC K Ca) (no : PySem.W.findIn K (.ref Ca) f = some none)
    (hb : ∀ (cdv : Value) (A : Around) (outer : List Env) (s : Shared) (H : Hp) (E : XK), PSs (cxOf (L2.CX P w) P w K mg base ["self", f] qual (defScope st) fI cdv A outer s H E) (defBody st) (tOst K f (tVar 0) (tVar 1))) :
    FnOk P w K mg base (L2.CX P w) 1 fI fd ["self", f] (spX Ca f) := by
  refine F.okX S (fun vs H Q E h => ?_) (fun cdv A outer s H vs Q E hr h => ⟨_, hb cdv A outer s H E, ?_⟩)
  · obtain ⟨a, v, rfl, _⟩ := h
    rfl
  · obtain ⟨a, v, rfl, ha, q⟩ := h
    exact ⟨v, rfl, _, rfl, a, Ca, rfl, T, no, .inl ⟨ha, fun dx h1 h2 => q dx h1 h2⟩⟩
end

section
variable {X : Cx} {c : Ct} {W : WX}
def mRaise (C f : Str) (a : MA) : MS := fun g mu => (a g mu).st g fun xs m => match xs with
  | [.d x] => .exc C [f] [x] g m
  | _ => .stuck
theorem raise_heap {H1 : Hp} {a dx Ca : Addr} {f : Str} {v : V} (ha : H1 a = none) (hd : dx ≠ a) :
    upd (del (upd (upd (upd H1 a (exo a Ca none)) dx (exd dx [(f, v)])) a (exo a Ca (some dx))) a) dx (.xd [(f, v)]) = upd H1 dx (.xd [(f, v)]) := by
  funext b
  by_cases h1 : b = dx
  · rw [h1, upd_same, upd_same]
  · rw [upd_ne h1, upd_ne h1]
    by_cases h2 : b = a
    · rw [h2, del_same, ha]
    · rw [del_ne h2, upd_ne h2, upd_ne h1, upd_ne h2]
theorem ds_raise {C f : Str} {Ca : Addr} {e : Expr} {ma : MA} {p pos pos2 : Pos} (hc : X.calm = true) (T : XC X.K X.mg X.prog X.w X.base C f) (hmc : X.mg C = some (.ref Ca)) (hcc : c.mg C = some (.ref Ca)) (hr : Room 2 X.A) (hg : Gl X C) (tk : Takes X W) (ha : PA X [e] (lftA c W ma)) (hdb : (C == ("__debug__" : Str)) = false := by decide) (he : starEach (e :: []) X.env = (false, eval e X.env) :: starEach [] X.env := by rfl) (hpl : (backTo pos (starEach [] X.env)).any (·.1) = false := by rfl) :
    PS X (.Raise (some (.Call (.Name C p) [e] [] pos)) none pos2) (lftS c W (mRaise C f ma)) := by
  obtain ⟨Ca', fI, fd, hm, O, hi, ht, G, hb⟩ := T.ex
  have : Ca' = Ca := by rw [hmc] at hm; cases hm; rfl
  subst this
  refine (ps_raise hc tk (pmk_oex (p := p) (dvs := []) O hi ht G hr hb .nil passL hg hm ha hdb he hpl)).weak fun D σ H ⟨g, ad, mu, hS, hT, o⟩ => ?_
  refine ⟨g, ad, mu, hS, hT, OutG.imp (OutS.bd (rel := Ans c) hS o) fun vs H1 ⟨ad1, mu1, xs, ch1, t1, dx, o1⟩ => ?_⟩
  split at o1
  · obtain ⟨v, rfl, b⟩ := dx.one
    refine ⟨(by simp : (1 : Nat) ≤ 1000), fun a ha1 => ⟨a, v, rfl, upd_same, fun d h1 h2 => ?_⟩⟩
    rw [upd_ne h2] at h1
    refine ⟨rfl, d, [(f, v)], upd_same, ?_, h1, ?_⟩
    · rw [upd_ne h2, upd_same]
    · rw [raise_heap ha1 h2]
      exact o1 Ca' d [(f, v)] σ _ ad1 hcc (.ex (.new h1)) ((hS.ch ch1).ch (.ex (.new h1))) (t1.ex (.new h1)) (t1.free h1) upd_same rfl (.cons ((d_of b).ch (.ex (.new h1))) .nil)
  · exact o1.elim

/-! ### try: several clauses, each with or without a name -/
abbrev Suite := Addr → Value → Option Addr → TS
/-- the slot of a clause's name is empty behind its suite -/
def gone (D : Ends) : Option Nat → Ends
  | none => D
  | some i => { nx := fun σ H => D.nx (σ.set i none) H, rt := D.rt, bk := fun σ H => D.bk (σ.set i none) H, ct := fun σ H => D.ct (σ.set i none) H }
def held (σ : L2.St) (a : Addr) : Option Nat → L2.St
  | none => σ
  | some i => σ.set i (some (.ref a))
def wCl (K : PySem.W.Frag) (Wout : WX) (D : Ends) : List (Value × Option Nat × Suite) → WX
  | [] => Wout
  | (cv, i, ts) :: r => fun cls d σ H => ∃ b, PySem.W.exmOne K cls cv = some b ∧ (b = true → ∀ a, H a = none → ts a cls d (gone D i) (held σ a i) H) ∧ (b = false → wCl K Wout D r cls d σ H)
inductive ClOk (X : Cx) : List ExceptHandler → List (Value × Option Nat × Suite) → Prop
  | nil : ClOk X [] []
  | bare {x : Str} {cv : Value} {ts : Suite} {b0 : Stmt} {suite : List Stmt} {np pos' : Pos} {hds : List ExceptHandler} {l : List (Value × Option Nat × Suite)} (hc : Names X x cv)
      (hsu : ∀ (a : Addr) (oe : Obj) (cls : Value) (d : Option Addr) (pn : List (Addr × Obj)), Zc cls d oe → (∃ vs, oe.data = .fields vs) → PSs (X.suite a ((a, oe) :: pn)) (b0 :: suite) (ts a cls d)) (r : ClOk X hds l) :
      ClOk X (.ExceptHandler (some (.Name x np)) none (b0 :: suite) pos' :: hds) ((cv, none, ts) :: l)
  | as_ {x n : Str} {i : Nat} {cv : Value} {ts : Suite} {b0 : Stmt} {suite : List Stmt} {np pos' : Pos} {hds : List ExceptHandler} {l : List (Value × Option Nat × Suite)} (hc : Names X x cv) (hi : X.N[i]? = some n) (hln : X.env.kindOf n = some .local)
      (hsu : ∀ (a : Addr) (oe : Obj) (cls : Value) (d : Option Addr) (pn : List (Addr × Obj)), Zc cls d oe → (∃ vs, oe.data = .fields vs) → PSs (X.suite a ((a, oe) :: pn)) (b0 :: suite) (ts a cls d)) (r : ClOk X hds l) :
      ClOk X (.ExceptHandler (some (.Name x np)) (some n) (b0 :: suite) pos' :: hds) ((cv, some i, ts) :: l)
theorem ps_tryN {body : List Stmt} {h0 : ExceptHandler} {hds : List ExceptHandler} {l : List (Value × Option Nat × Suite)} {pos : Pos} {tb : WX → TS} {Wout : WX} (hs : X.stack = X.env :: X.outer) (hf : X.env.frame = some X.env.locals) (hN : X.N.Nodup) (tk : Takes X Wout)
    (hb : ∀ (W : WX) (pn : List (Addr × Obj)) (xe : Value → Shared → Prop), Takes (X.tr pn xe) W → PassesOwn (model X.prog X.w) X.A X.env xe → PSs (X.tr pn xe) body (tb W))
    (hh : ClOk X (h0 :: hds) l) : PS X (.Try body (h0 :: hds) [] [] pos) (fun D σ H => tb (wCl X.K Wout D l) D σ H) := by
  refine ⟨fun pins s σ H D I h => ?_⟩
  have ok := I.ok
  have hfr : X.A.frames = some (X.env :: X.outer) := by rw [ok.frames, hs]
  refine wpAny_Try_except ?_
  refine wpAny_mono ((hb (wCl X.K Wout D l) (X.pn ++ pins) (fun e t1 => wpAny (model X.prog X.w) X.A (noteFrame e X.env) (fun _ t2 => wpAny (model X.prog X.w) X.A (setFlight e none) (fun _ t3 =>
    wpAny (model X.prog X.w) X.A (handleBy e X.env (h0 :: hds)) (SP X pins D) X.xe t3) X.xe t2) X.xe t1) (fun u s' xx => ?_) PassesOwn.looking).run [] s σ H D (I.toTry _) h) (fun f s1 hsp => ?_) (fun e s1 he => he)
  · obtain ⟨a, B, sI, pins', σ', H', cls, d, rfl, J', nb, up, sky, na, os, ag, w⟩ := xx
    have J : Inv X pins σ' H' sI := J'.ofTry ok
    have skyE : Sky B (X.env :: X.outer) a (Zc cls d) X.env.locals s'.heap := by rw [← hs]; exact sky
    show wpAny (model X.prog X.w) X.A (noteFrame (.ref a) X.env) _ _ _
    refine Sky.land Zc.steady hfr hf skyE fun h3 fl3 up3 => ?_
    have J3 : Inv X pins σ' H' { s' with heap := h3 } := J.landed nb fl3.1 (up.trans up3) os ag
    obtain ⟨oe3, vs3, he3, hz3, hd3⟩ := fl3.there
    have nfr : a ∉ frs (X.env :: X.outer) := fun hm => by
      obtain ⟨_, o', e', hnf⟩ := fl3.2.2.1.mem hm
      rw [he3] at e'
      cases e'
      exact hnf _ hd3
    have nL : a ≠ X.env.locals := fun z => nfr (List.mem_filterMap.mpr ⟨X.env, List.mem_cons_self, by rw [hf, z]⟩)
    have nF : a ∉ X.fs := fun hm => by
      obtain ⟨e, he, q⟩ := List.mem_filterMap.mp hm
      exact nfr (List.mem_filterMap.mpr ⟨e, List.mem_cons_of_mem _ he, q⟩)
    have S3 := J3.suite he3 hd3 na nL nF
    have LT : PySem.W.Looks (model X.prog X.w) h3 (typeOf (.ref a)) cls := fun A Q E s k q => wpAny_typeOf_ref (k _ _ he3) (by rw [hz3.1]; exact q)
    have test : ∀ {x : Str} {np : Pos} {cv : Value} {Q : Value → Shared → Prop} {E : Value → Shared → Prop}, Names X x cv → Q cv { s' with heap := h3 } → wpAny (model X.prog X.w) (X.A.mark (some (.ref a))) (eval (.Name x np) X.env) Q E { s' with heap := h3 } := fun {x np cv Q E} hc q => by
      obtain ⟨hg, hdbg, hm | ⟨hm, hv, hnn⟩⟩ := hc
      · exact ld_glob (X := X.suite a ((a, oe3) :: (X.pn ++ pins))) S3 hg hm q hdbg
      · exact ld_blt (X := X.suite a ((a, oe3) :: (X.pn ++ pins))) S3 hg hm hv q hnn hdbg
    have go : ∀ {hds' : List ExceptHandler} {l' : List (Value × Option Nat × Suite)}, ClOk X hds' l' → wCl X.K Wout D l' cls d σ' H' →
        wpAny (model X.prog X.w) X.A (handleBy (.ref a) X.env hds') (SP X pins D) X.xe { s' with heap := h3 } := by
      intro hds' l' hk
      induction hk with
      | nil =>
        intro w
        refine wpAny_handleBy_nil ?_
        obtain ⟨k1, k2, k3, oe, vs, T, oT, ts', he, hz, hd, h1, hr⟩ := id fl3
        unfold PySem.passOn
        refine wpAny_bind (wpAny_field he hd h1 ?_)
        rw [if_neg (show ¬ ((Value.ref T == Value.none) = true) from by simp)]
        have fin : wpAny (model X.prog X.w) X.A (setFlight (.ref a) X.env.frame) (fun _ s4 => wpAny (model X.prog X.w) X.A (throw (.ref a) : Sem Flow) (SP X pins D) X.xe s4) X.xe { s' with heap := h3 } := by
          rw [hf]
          refine HandSPX.setFlight_upZ fl3 fun h4 hh4 up4 => wpAny_throw (tk _ _ ?_)
          exact ⟨a, B, sI, pins, σ', H', cls, d, rfl, J, nb, (up.trans up3).trans up4, .inr (.inr (by rw [hs]; exact hh4)), na, os, ag, w⟩
        first
          | exact wpAny_bind (wpAny_pure (wpAny_bind fin))
          | exact wpAny_bind fin
      | @bare x cv ts b0 suite np pos' hds2 l2 hc hsu r ih =>
        intro w
        obtain ⟨b, hb1, hyes, hno⟩ := w
        refine wpAny_handleBy_cons (codeAny_handlers_test ?_) (by intro q; cases q)
        have LM := PySem.W.exm_one (M := model X.prog X.w) (J3.kIn) LT hb1
        refine test hc (LM.here ?_)
        cases b with
        | true =>
          refine codeAny_handlers_suite ?_
          refine HandSPX.lands_againZ fl3 fun h4 fl4 up4 => ?_
          have J4 : Inv X pins σ' H' { s' with heap := h4 } := J.landed nb fl4.1 ((up.trans up3).trans up4) os ag
          obtain ⟨oe4, vs4, he4, hz4, hd4⟩ := fl4.there
          have S4 := J4.suite he4 hd4 na nL nF
          refine wpAny_mono ((hsu a oe4 cls d (X.pn ++ pins) hz4 ⟨_, hd4⟩).run [] _ _ H' _ S4 (hyes rfl a na)) (fun f s6 hsp => ?_) (fun _ _ z => False.elim z)
          cases f with
          | next => obtain ⟨σ6, H6, S6, q6⟩ := hsp; exact ⟨_, _, S6.unsuite ok, q6⟩
          | brk => obtain ⟨σ6, H6, S6, q6⟩ := hsp; exact ⟨_, _, S6.unsuite ok, q6⟩
          | cont => obtain ⟨σ6, H6, S6, q6⟩ := hsp; exact ⟨_, _, S6.unsuite ok, q6⟩
          | ret u => obtain ⟨v6, σ6, H6, S6, r6, q6⟩ := hsp; exact ⟨_, _, _, S6.unsuite ok, r6, q6⟩
        | false =>
          show wpAny _ X.A (handleBy (.ref a) X.env hds2) _ _ _
          exact ih (hno rfl)
      | @as_ x n i cv ts b0 suite np pos' hds2 l2 hc hi hln hsu r ih =>
        intro w
        obtain ⟨b, hb1, hyes, hno⟩ := w
        refine wpAny_handleBy_cons (codeAny_handlers_test ?_) (by intro q; cases q)
        have LM := PySem.W.exm_one (M := model X.prog X.w) (J3.kIn) LT hb1
        refine test hc (LM.here ?_)
        cases b with
        | true =>
          refine codeAny_handlers_suite_as ?_
          refine HandSPX.lands_againZ fl3 fun h4 fl4 up4 => ?_
          have J4 : Inv X pins σ' H' { s' with heap := h4 } := J.landed nb fl4.1 ((up.trans up3).trans up4) os ag
          obtain ⟨oe4, vs4, he4, hz4, hd4⟩ := fl4.there
          have S4 := J4.suite he4 hd4 na nL nF
          refine store_ok (X := X.suite a ((a, oe4) :: (X.pn ++ pins))) (v := .ref a) S4 hN hi (.inl hln) rfl (fun s5 S5 => ?_) (.inr hln)
          refine wpAny_mono ((hsu a oe4 cls d (X.pn ++ pins) hz4 ⟨_, hd4⟩).run [] s5 _ H' _ S5 (hyes rfl a na)) (fun f s6 hsp => ?_) (fun _ _ z => False.elim z)
          have endA : ∀ {σ6 : L2.St} {H6 : Hp} {Q : Shared → Prop}, Inv (X.suite a ((a, oe4) :: (X.pn ++ pins))) [] σ6 H6 s6 → (∀ s7, Inv X pins (σ6.set i none) H6 s7 → Q s7) →
              wpAny (model X.prog X.w) X.A (do bindName X.env n .none; unbindBehindTheSuite X.env n pos') (fun _ s7 => Q s7) X.xe s6 := fun {σ6 H6 Q} S6 hq => gone_ok (S6.unsuite ok) hN hi hln hq
          cases f with
          | next => obtain ⟨σ6, H6, S6, q6⟩ := hsp; exact endA S6 fun s7 J7 => ⟨_, _, J7, q6⟩
          | brk => obtain ⟨σ6, H6, S6, q6⟩ := hsp; exact endA S6 fun s7 J7 => ⟨_, _, J7, q6⟩
          | cont => obtain ⟨σ6, H6, S6, q6⟩ := hsp; exact endA S6 fun s7 J7 => ⟨_, _, J7, q6⟩
          | ret u => obtain ⟨v6, σ6, H6, S6, r6, q6⟩ := hsp; exact endA S6 fun s7 J7 => ⟨_, _, _, J7, r6, q6⟩
        | false =>
          show wpAny _ X.A (handleBy (.ref a) X.env hds2) _ _ _
          exact ih (hno rfl)
    exact go hh w
  · cases f with
    | next => obtain ⟨σ', H', J', q⟩ := hsp; exact wpAny_execs_nil ⟨σ', H', J'.ofTry ok, q⟩
    | brk => obtain ⟨σ', H', J', q⟩ := hsp; exact ⟨σ', H', J'.ofTry ok, q⟩
    | cont => obtain ⟨σ', H', J', q⟩ := hsp; exact ⟨σ', H', J'.ofTry ok, q⟩
    | ret u => obtain ⟨v, σ', H', J', r, q⟩ := hsp; exact ⟨v, σ', H', J'.ofTry ok, r, q⟩

/-! the mirror of a try -/
/-- in an except suite that holds the error with the dict d -/
abbrev Ct.sui (c : Ct) (a : Addr) (d : Option Addr) : Ct := { c with xd := d.map fun dd => (a, dd) }
mutual
theorem Dn.sui {H : Hp} {ad : List Addr} {a0 : Addr} {d0 : Option Addr} : ∀ {d : D} {v : V}, Dn c H ad v d → Dn (c.sui a0 d0) H ad v d
  | _, _, .non => .non
  | _, _, .bl b => .bl b
  | _, _, .int i => .int i
  | _, _, .str x => .str x
  | _, _, .tup n r t => .tup n r (Dns.sui t)
  | _, _, .ktup r t => .ktup r (Dns.sui t)
  | _, _, .lst n r t => .lst n r (Dns.sui t)
  | _, _, .ins n m e k t => .ins n m e k (Dns.sui t)
theorem Dns.sui {H : Hp} {ad : List Addr} {a0 : Addr} {d0 : Option Addr} : ∀ {ds : List D} {vs : List V}, Dns c H ad vs ds → Dns (c.sui a0 d0) H ad vs ds
  | _, _, .nil => .nil
  | _, _, .cons a b => .cons (Dn.sui a) (Dns.sui b)
end
mutual
theorem Dn.unsui {H : Hp} {ad : List Addr} {a0 : Addr} {d0 : Option Addr} : ∀ {d : D} {v : V}, Dn (c.sui a0 d0) H ad v d → Dn c H ad v d
  | _, _, .non => .non
  | _, _, .bl b => .bl b
  | _, _, .int i => .int i
  | _, _, .str x => .str x
  | _, _, .tup n r t => .tup n r (Dns.unsui t)
  | _, _, .ktup r t => .ktup r (Dns.unsui t)
  | _, _, .lst n r t => .lst n r (Dns.unsui t)
  | _, _, .ins n m e k t => .ins n m e k (Dns.unsui t)
theorem Dns.unsui {H : Hp} {ad : List Addr} {a0 : Addr} {d0 : Option Addr} : ∀ {ds : List D} {vs : List V}, Dns (c.sui a0 d0) H ad vs ds → Dns c H ad vs ds
  | _, _, .nil => .nil
  | _, _, .cons a b => .cons (Dn.unsui a) (Dns.unsui b)
end
theorem Sto.sui {H : Hp} {ad : List Addr} {m : Mu} {a0 : Addr} {d0 : Option Addr} (s : Sto c H ad m) : Sto (c.sui a0 d0) H ad m := ⟨s.nd, s.len, fun i a cl h1 h2 => by
  have x := s.at_ i a cl h1 h2
  cases cl with
  | lst ds => obtain ⟨vs, e, t⟩ := x; exact ⟨vs, e, t.sui⟩
  | ins C ks ds => obtain ⟨Ca, dx, fs, m, e, k, t⟩ := x; exact ⟨Ca, dx, fs, m, e, k, t.sui⟩⟩
theorem Sto.unsui {H : Hp} {ad : List Addr} {m : Mu} {a0 : Addr} {d0 : Option Addr} (s : Sto (c.sui a0 d0) H ad m) : Sto c H ad m := ⟨s.nd, s.len, fun i a cl h1 h2 => by
  have x := s.at_ i a cl h1 h2
  cases cl with
  | lst ds => obtain ⟨vs, e, t⟩ := x; exact ⟨vs, e, t.unsui⟩
  | ins C ks ds => obtain ⟨Ca, dx, fs, m, e, k, t⟩ := x; exact ⟨Ca, dx, fs, m, e, k, t.unsui⟩⟩
/-- an error does not go in or out of a suite by a name -/
def noX : Option Ar → Option Ar
  | some (.exn _ _) => none
  | x => x
def clr (g : Gm) : Gm := g.map noX
theorem clr_get {g : Gm} {i : Nat} {x : Ar} (e : (clr g)[i]? = some (some x)) : g[i]? = some (some x) ∧ ∀ ks ds, x ≠ .exn ks ds := by
  unfold clr at e
  rw [List.getElem?_map] at e
  cases q : g[i]? with
  | none => rw [q] at e; cases e
  | some y =>
    rw [q] at e
    cases y with
    | none => cases e
    | some y =>
      cases y with
      | exn ks ds => cases e
      | d z => cases e; exact ⟨rfl, fun _ _ h => by cases h⟩
      | cel z => cases e; exact ⟨rfl, fun _ _ h => by cases h⟩
      | scr z => cases e; exact ⟨rfl, fun _ _ h => by cases h⟩
theorem Sl.sui {H : Hp} {ad : List Addr} {σ : L2.St} {g : Gm} {a0 : Addr} {d0 : Option Addr} (s : Sl c H ad σ g) : Sl (c.sui a0 d0) H ad σ (clr g) := ⟨by simp [clr, s.1], fun i x e => by
  obtain ⟨e1, nx⟩ := clr_get e
  obtain ⟨v, hv, a⟩ := s.2 i x e1
  refine ⟨v, hv, ?_⟩
  cases a with
  | d q => exact .d q.sui
  | cel q => exact .cel q
  | scr n q z => exact .scr n q z
  | kscr q => exact .kscr q
  | exn _ _ _ _ _ => exact absurd rfl (nx _ _)⟩
theorem Sl.unsui {H : Hp} {ad : List Addr} {σ : L2.St} {g : Gm} {a0 : Addr} {d0 : Option Addr} (s : Sl (c.sui a0 d0) H ad σ g) : Sl c H ad σ (clr g) := ⟨by simp [clr, s.1], fun i x e => by
  obtain ⟨e1, nx⟩ := clr_get e
  obtain ⟨v, hv, a⟩ := s.2 i x e1
  refine ⟨v, hv, ?_⟩
  cases a with
  | d q => exact .d q.unsui
  | cel q => exact .cel q
  | scr n q z => exact .scr n q z
  | kscr q => exact .kscr q
  | exn _ _ _ _ _ => exact absurd rfl (nx _ _)⟩
structure Hdl where
  C : Str
  i : Option Nat
  m : MS
/-- behind a suite: the name is gone -/
def outH (i : Option Nat) (g : Gm) : Gm := match i with
  | none => clr g
  | some i => (clr g).set i none
def inH (i : Option Nat) (g : Gm) (ks : List Str) (ds : List D) : Gm := match i with
  | none => clr g
  | some i => (clr g).set i (some (.exn ks ds))
def hdlL (C : Str) (ks : List Str) (ds : List D) (g : Gm) (m : Mu) : List Hdl → RS
  | [] => .exc C ks ds g m
  | h :: r => if C = h.C then (match h.m (inH h.i g ks ds) m with
    | .nx g2 m2 => .nx (outH h.i g2) m2
    | .bk g2 m2 => .bk (outH h.i g2) m2
    | .ct g2 m2 => .ct (outH h.i g2) m2
    | .rt (.d x) m2 => .rt (.d x) m2
    | _ => .stuck) else hdlL C ks ds g m r
/-- kn: the errors that the clauses' classes are known to tell apart -/
def mTry (kn : List Str) (b : MS) (hs : List Hdl) : MS := fun g mu => match b g mu with
  | .exc C ks ds g' m => if C ∈ kn then hdlL C ks ds g' m hs else .stuck
  | .nx g m => .nx g m
  | .rt x m => .rt x m
  | .bk g m => .bk g m
  | .ct g m => .ct g m
  | .stuck => .stuck
/-- the clauses' readings by their mirrors -/
inductive ClM (c : Ct) (kn : List Str) : List (Value × Option Nat × Suite) → List Hdl → Prop
  | nil : ClM c kn [] []
  | cons {C : Str} {Ca : Addr} {i : Option Nat} {ts : Suite} {m : MS} {l : List (Value × Option Nat × Suite)} {hs : List Hdl} (hx : ∀ C' ∈ kn, ∀ Ca', c.mg C' = some (.ref Ca') → PySem.W.exmOne c.K (.ref Ca') (.ref Ca) = some (decide (C' = C)))
      (ht : ∀ a cls d D σ H, (∃ C', C' = C ∧ c.mg C' = some cls) → lftS (c.sui a d) W0 m D σ H → ts a cls d D σ H) (r : ClM c kn l hs) : ClM c kn ((.ref Ca, i, ts) :: l) (⟨C, i, m⟩ :: hs)
theorem hdl_run {kn : List Str} {D : Ends} {C : Str} {ks : List Str} {ds : List Dw.D} {Ca x : Addr} {fs : List (Str × V)} {σ : L2.St} {g : Gm} {H : Hp} {ad : List Addr} {m : Mu} (hkn : C ∈ kn) (hm : c.mg C = some (.ref Ca)) (hS : Sl c H ad σ g) (hT : Sto c H ad m) (nx : x ∉ ad) (hx : H x = some (.xd fs)) (hk : fs.map (·.1) = ks) (hds : Dns c H ad (fs.map (·.2)) ds) :
    ∀ {l : List (Value × Option Nat × Suite)} {hs : List Hdl}, ClM c kn l hs → OutS c W H ad (hdlL C ks ds g m hs) D → wCl c.K W D l (.ref Ca) (some x) σ H := by
  intro l hs hl
  induction hl with
  | nil => exact fun o => o Ca x fs σ H ad hm (.refl _ _) hS hT nx hx hk hds
  | @cons C0 Ca0 i ts m0 l0 hs0 hx0 ht r ih =>
    intro o
    refine ⟨decide (C = C0), hx0 C hkn Ca hm, fun hb a na => ?_, fun hb => ?_⟩
    · have hC : C = C0 := of_decide_eq_true hb
      unfold hdlL at o
      rw [if_pos hC] at o
      refine ht a (.ref Ca) (some x) _ _ H ⟨C, hC, hm⟩ ⟨inH i g ks ds, ad, m, ?_, hT.sui, ?_⟩
      · cases i with
        | none => exact hS.sui
        | some i => exact hS.sui.set (.exn rfl nx hx hk hds.sui)
      · cases hq : m0 (inH i g ks ds) m with
        | stuck => simp only [hq] at o; exact o.elim
        | exc C2 ks2 ds2 g2 m2 => simp only [hq] at o; exact o.elim
        | rt y m2 =>
          simp only [hq] at o
          cases y with
          | d y =>
            intro v H' ad' ch t av
            have : (gone D i).rt = D.rt := by cases i <;> rfl
            rw [this]
            exact o v H' ad' ch t.unsui (.d (d_of av).unsui)
          | cel j => exact o.elim
          | scr j => exact o.elim
          | exn _ _ => exact o.elim
        | nx g2 m2 =>
          simp only [hq] at o
          intro σ' H' ad' ch s t
          cases i with
          | none => exact o σ' H' ad' ch s.unsui t.unsui
          | some i => exact o _ H' ad' ch s.unsui.del t.unsui
        | bk g2 m2 =>
          simp only [hq] at o
          intro σ' H' ad' ch s t
          cases i with
          | none => exact o σ' H' ad' ch s.unsui t.unsui
          | some i => exact o _ H' ad' ch s.unsui.del t.unsui
        | ct g2 m2 =>
          simp only [hq] at o
          intro σ' H' ad' ch s t
          cases i with
          | none => exact o σ' H' ad' ch s.unsui t.unsui
          | some i => exact o _ H' ad' ch s.unsui.del t.unsui
    · have hC : ¬ C = C0 := of_decide_eq_false hb
      unfold hdlL at o
      rw [if_neg hC] at o
      exact ih o
theorem try_run {kn : List Str} {mb : MS} {l : List (Value × Option Nat × Suite)} {hs : List Hdl} (hl : ClM c kn l hs) {D : Ends} {σ : L2.St} {H : Hp} (h : lftS c W (mTry kn mb hs) D σ H) : lftS c (wCl c.K W D l) mb D σ H := by
  obtain ⟨g, ad, mu, hS, hT, o⟩ := h
  refine ⟨g, ad, mu, hS, hT, ?_⟩
  unfold mTry at o
  cases hb : mb g mu with
  | nx g m => rw [hb] at o; exact o
  | rt x m => rw [hb] at o; exact o
  | bk g m => rw [hb] at o; exact o
  | ct g m => rw [hb] at o; exact o
  | stuck => rw [hb] at o; exact o
  | exc C ks ds g' m =>
    rw [hb] at o
    intro Ca x fs σ' H' ad' hm ch s t nx hx hk hds
    simp only at o
    split at o
    · rename_i hkn
      exact hdl_run hkn hm s t nx hx hk hds hl (OutS.mv ch o)
    · exact o.elim
theorem ds_try {body : List Stmt} {h0 : ExceptHandler} {hds : List ExceptHandler} {l : List (Value × Option Nat × Suite)} {pos : Pos} {kn : List Str} {mb : MS} {hs : List Hdl} (h1 : X.stack = X.env :: X.outer) (hf : X.env.frame = some X.env.locals) (hN : X.N.Nodup) (hK : X.K = c.K) (tk : Takes X W)
    (hb : ∀ (W : WX) (pn : List (Addr × Obj)) (xe : Value → Shared → Prop), Takes (X.tr pn xe) W → PassesOwn (model X.prog X.w) X.A X.env xe → PSs (X.tr pn xe) body (lftS c W mb))
    (hh : ClOk X (h0 :: hds) l) (hl : ClM c kn l hs) : PS X (.Try body (h0 :: hds) [] [] pos) (lftS c W (mTry kn mb hs)) :=
  (ps_tryN (tb := fun W => lftS c W mb) h1 hf hN tk hb hh).weak fun D σ H h => by
    rw [hK]
    exact try_run hl h
/-- e.f of the error in hand -/
def mXf (f : Str) (e : ME) : ME := fun g mu => (e g mu).bd fun x m => match x with
  | .exn ks ds => (match lkF ks ds f with
    | some d => .ok (.d d) m
    | none => .stuck)
  | _ => .stuck
theorem de_xf {a Ca : Addr} {oe : Obj} {cls : Value} {d : Option Addr} {pn : List (Addr × Obj)} {i : Nat} {f : Str} {e : Expr} {pos : Pos} (T : XfC X.K Ca) (hno : PySem.W.findIn X.K (.ref Ca) f = some none) (hz : Zc cls d oe) (hf : ∃ vs, oe.data = .fields vs) (hcls : cls = .ref Ca)
    (hv : PE (X.suite a ((a, oe) :: pn)) e (tVar i)) (hb : attributeBase e f X.env (eval e X.env) = eval e X.env := by rfl) :
    PE (X.suite a ((a, oe) :: pn)) (.Attribute e f pos) (lft (c.sui a d) W0 (mXf f (mVar i))) :=
  (pe_xf T hno hz hf hv hb).weak fun σ H Q ⟨g, ad, mu, hS, hT, o⟩ => by
    unfold mXf mVar at o
    split at o
    · rename_i x e1
      obtain ⟨v, e2, av⟩ := hS.2 i x e1
      simp only [R.bd] at o
      split at o
      · rename_i ks ds
        split at o
        · rename_i dv hl
          cases av with
          | exn hxd n hh hk t =>
            subst hk
            cases d with
            | none => cases hxd
            | some dd =>
              cases hxd
              obtain ⟨w, hw, dw⟩ := lkF_ok t hl
              exact ⟨_, e2, rfl, hcls, _, _, w, rfl, hh, hw, o w H ad (.refl _ _) hT (.d dw)⟩
        · exact o.elim
      · exact o.elim
    · exact o.elim
end
end Dw
namespace Dw
open PySem PySem.Spec PyProof.Rows L2
section
variable {X : Cx} {c : Ct} {W : WX} {H : Hp} {ad : List Addr} {mu : Mu} {v : V}
theorem str_of {s : Str} (h : An c H ad v (.d (.str s))) : v = .str s := by
  cases h with
  | d a => cases a; rfl
theorem non_of (h : An c H ad v (.d .non)) : v = .non := by
  cases h with
  | d a => cases a; rfl

/-! ### + - * // % ** -/
def fAdd : Mu → Ar → Ar → Option D := fun _ x y => match x, y with
  | .d (.int i), .d (.int j) => some (.int (i + j))
  | .d (.str a), .d (.str b) => if a.length + b.length ≤ 16777216 then some (.str (a ++ b)) else none
  | .d (.tup a), .d (.tup b) => if a.length + b.length ≤ 16777216 then some (.tup (a ++ b)) else none
  | .d (.lst a), .d (.lst b) => if a.length + b.length ≤ 16777216 then some (.lst (a ++ b)) else none
  | _, _ => none
def rAddS : R2 := fun x y H Q => ∃ i j, x = .str i ∧ y = .str j ∧ i.length + j.length ≤ sizeLine ∧ Q (.str (i ++ j)) H
def rAddA (K : PySem.W.Frag) : R2 := fun x y H Q => (rI0 fun i j => .int (i + j)) x y H Q ∨ (rAddS x y H Q ∨ (rCatA K x y H Q ∨ rCat x y H Q))
theorem op_addA : OpR X (binaryOp .Add) (rAddA X.K) := op_add.or (op_add_str.or (op_catA.or op_cat))
theorem od_add : OpD c (rAddA c.K) fAdd := fun H ad mu v w x y z s a b h Q q => by
  unfold fAdd at h
  split at h
  · cases h
    rw [int_of a, int_of b]
    exact .inl ⟨_, _, rfl, rfl, q _ H (.refl _) (.int _)⟩
  · split at h
    · rename_i hl
      cases h
      rw [str_of a, str_of b]
      exact .inr (.inl ⟨_, _, rfl, rfl, by rw [line]; exact hl, q _ H (.refl _) (.str _)⟩)
    · cases h
  · split at h
    · rename_i xs ys hl
      cases h
      obtain ⟨p, us, rfl, hp, tp⟩ := tup_of a
      obtain ⟨p2, us2, rfl, hp2, tp2⟩ := tup_of b
      refine .inr (.inr (.inl ⟨p, p2, us, us2, rfl, rfl, hp, hp2, by rw [tp.length, tp2.length, line]; exact hl, fun e => ?_, fun _ e => ?_, fun _ _ r hr => ?_⟩))
      · subst e
        cases tp
        exact q _ H (.refl _) (d_of b)
      · subst e
        cases tp2
        rw [List.append_nil] at q
        exact q _ H (.refl _) (d_of a)
      · exact q _ _ (.new hr) (new_tup s hr (tp.append tp2))
    · cases h
  · split at h
    · rename_i xs ys hl
      cases h
      obtain ⟨p, us, rfl, _, hp, _, tp⟩ := lst_of2 a
      obtain ⟨p2, us2, rfl, _, hp2, _, tp2⟩ := lst_of2 b
      exact .inr (.inr (.inr ⟨p, p2, us, us2, rfl, rfl, hp, hp2, by rw [tp.length, tp2.length, line]; exact hl, fun r hr => q _ _ (.new hr) (new_lst s hr (tp.append tp2))⟩))
    · cases h
  · cases h
def fI (C : Int → Int → Prop) [∀ i j, Decidable (C i j)] (g : Int → Int → Int) : Mu → Ar → Ar → Option D := fun _ x y => match x, y with
  | .d (.int i), .d (.int j) => if C i j then some (.int (g i j)) else none
  | _, _ => none
theorem od_i {C : Int → Int → Prop} [∀ i j, Decidable (C i j)] {g : Int → Int → Int} : OpD c (rI C fun i j => .int (g i j)) (fI C g) := fun H ad mu v w x y z s a b h Q q => by
  unfold fI at h
  split at h
  · split at h
    · rename_i hc
      cases h
      rw [int_of a, int_of b]
      exact ⟨_, _, rfl, rfl, hc, q _ H (.refl _) (.int _)⟩
    · cases h
  · cases h
instance (i j : Int) : Decidable (CMul i j) := by unfold CMul; infer_instance
instance (i j : Int) : Decidable (CDiv i j) := by unfold CDiv; infer_instance
instance (i j : Int) : Decidable (CPow i j) := by unfold CPow; infer_instance
def fSub : Mu → Ar → Ar → Option D := fun _ x y => match x, y with
  | .d (.int i), .d (.int j) => some (.int (i - j))
  | _, _ => none
theorem od_sub : OpD c (rI0 fun i j => .int (i - j)) fSub := fun H ad mu v w x y z s a b h Q q => by
  unfold fSub at h
  split at h
  · cases h
    rw [int_of a, int_of b]
    exact ⟨_, _, rfl, rfl, q _ H (.refl _) (.int _)⟩
  · cases h
def fMul : Mu → Ar → Ar → Option D := fI CMul fun i j => i * j
def fDiv : Mu → Ar → Ar → Option D := fI CDiv fun i j => i / j
def fMod : Mu → Ar → Ar → Option D := fI (fun _ j => 0 < j) fun i j => i % j
def fPow : Mu → Ar → Ar → Option D := fI CPow fun i j => i ^ j.toNat
theorem od_mul : OpD c (rI CMul fun i j => .int (i * j)) fMul := od_i
theorem od_div : OpD c (rI CDiv fun i j => .int (i / j)) fDiv := od_i
theorem od_mod : OpD c (rI (fun _ j => 0 < j) fun i j => .int (i % j)) fMod := od_i
theorem od_pow : OpD c (rI CPow fun i j => .int (i ^ j.toNat)) fPow := od_i
def fNeg : Mu → Ar → Option D := fun _ x => match x with
  | .d (.int i) => some (.int (-i))
  | _ => none
theorem ud_neg : UnD c (rU fun i => .int (-i)) fNeg := fun H ad mu v x z s a h Q q => by
  unfold fNeg at h
  split at h
  · cases h
    rw [int_of a]
    exact ⟨_, rfl, q _ H (.refl _) (.int _)⟩
  · cases h

/-! ### comparisons of ints; is, is not -/
def fB (g : Int → Int → Bool) : Mu → Ar → Ar → Option D := fun _ x y => match x, y with
  | .d (.int i), .d (.int j) => some (.bl (g i j))
  | _, _ => none
theorem od_b {g : Int → Int → Bool} : OpD c (rI0 fun i j => .bl (g i j)) (fB g) := fun H ad mu v w x y z s a b h Q q => by
  unfold fB at h
  split at h
  · cases h
    rw [int_of a, int_of b]
    exact ⟨_, _, rfl, rfl, q _ H (.refl _) (.bl _)⟩
  · cases h
def fLt := fB fun i j => decide (i < j)
def fLe := fB fun i j => decide (i ≤ j)
def fGt := fB fun i j => decide (j < i)
def fGe := fB fun i j => decide (j ≤ i)
theorem od_lt : OpD c (rI0 fun i j => .bl (decide (i < j))) fLt := od_b
theorem od_le : OpD c (rI0 fun i j => .bl (decide (i ≤ j))) fLe := od_b
theorem od_gt : OpD c (rI0 fun i j => .bl (decide (j < i))) fGt := od_b
theorem od_ge : OpD c (rI0 fun i j => .bl (decide (j ≤ i))) fGe := od_b
/-- is True, is False; is None -/
def fIsB (neg : Bool) : Mu → Ar → Ar → Option D := fun _ x y => match x, y with
  | .d (.bl a), .d (.bl b) => some (.bl (decide (a = b) != neg))
  | _, _ => none
theorem od_isB : OpD c rIsB (fIsB false) := fun H ad mu v w x y z s a b h Q q => by
  unfold fIsB at h
  split at h
  · rename_i p r
    cases h
    rw [bl_of a, bl_of b]
    refine ⟨p, r, rfl, rfl, q _ H (.refl _) ?_⟩
    rw [Bool.bne_false]
    exact .bl _
  · cases h
theorem od_notB : OpD c rNotB (fIsB true) := fun H ad mu v w x y z s a b h Q q => by
  unfold fIsB at h
  split at h
  · rename_i p r
    cases h
    rw [bl_of a, bl_of b]
    refine ⟨p, r, rfl, rfl, q _ H (.refl _) ?_⟩
    rw [Bool.bne_true]
    exact .bl _
  · cases h
def isNon : Ar → Bool
  | .d .non => true
  | _ => false
theorem isNon_ok {x : Ar} (a : An c H ad v x) : decide (v = .non) = isNon x := by
  cases a with
  | d q => cases q <;> rfl
  | cel _ => rfl
  | scr _ _ _ => rfl
  | kscr _ => rfl
  | exn _ _ _ _ _ => rfl
def fIsN : Mu → Ar → Ar → Option D := fun _ x y => match y with
  | .d .non => some (.bl (isNon x))
  | _ => none
def fNotN : Mu → Ar → Ar → Option D := fun _ x y => match y with
  | .d .non => some (.bl (!isNon x))
  | _ => none
theorem od_isN : OpD c (fun x y H Q => y = .non ∧ Q (.bl (decide (x = .non))) H) fIsN := fun H ad mu v w x y z s a b h Q q => by
  unfold fIsN at h
  split at h
  · cases h
    refine ⟨non_of b, q _ H (.refl _) ?_⟩
    rw [isNon_ok a]
    exact .bl _
  · cases h
theorem od_notN : OpD c (fun x y H Q => y = .non ∧ Q (.bl (!decide (x = .non))) H) fNotN := fun H ad mu v w x y z s a b h Q q => by
  unfold fNotN at h
  split at h
  · cases h
    refine ⟨non_of b, q _ H (.refl _) ?_⟩
    rw [isNon_ok a]
    exact .bl _
  · cases h

/-! ### == of data -/
mutual
def deq : D → D → Bool
  | .non, .non => true
  | .bl a, .bl b => a == b
  | .bl a, .int j => (if a then 1 else 0) == j
  | .int i, .bl b => i == (if b then 1 else 0)
  | .int i, .int j => i == j
  | .str x, .str y => x == y
  | .lst xs, .lst ys => deqs xs ys
  | .tup xs, .tup ys => deqs xs ys
  | _, _ => false
def deqs : List D → List D → Bool
  | [], [] => true
  | x :: xs, y :: ys => deq x y && deqs xs ys
  | _, _ => false
end
mutual
/-- data that == of the library reads: no instance in it -/
def dok : D → Bool
  | .non => true
  | .bl _ => true
  | .int _ => true
  | .str s => PyData.strOk s
  | .tup xs => doks xs
  | .lst xs => doks xs
  | .ins _ _ _ => false
def doks : List D → Bool
  | [] => true
  | x :: xs => dok x && doks xs
end
mutual
def dep : D → Nat
  | .tup xs => deps xs + 1
  | .lst xs => deps xs + 1
  | _ => 0
def deps : List D → Nat
  | [] => 0
  | x :: xs => max (dep x) (deps xs)
end
mutual
def toPy : D → PyData
  | .non => .none
  | .bl b => .bool b
  | .int i => .int i
  | .str s => .str s
  | .tup xs => .tuple (toPys xs)
  | .lst xs => .list (toPys xs)
  | .ins _ _ _ => .none
def toPys : List D → List PyData
  | [] => []
  | x :: xs => toPy x :: toPys xs
end
mutual
theorem dep_py : ∀ d : D, (toPy d).depth = dep d
  | .non => by simp [toPy, dep, PyData.depth]
  | .bl b => by simp [toPy, dep, PyData.depth]
  | .int i => by simp [toPy, dep, PyData.depth]
  | .str s => by simp [toPy, dep, PyData.depth]
  | .tup xs => by simp [toPy, dep, PyData.depth, deps_py xs]
  | .lst xs => by simp [toPy, dep, PyData.depth, deps_py xs]
  | .ins _ _ _ => by simp [toPy, dep, PyData.depth]
theorem deps_py : ∀ ds : List D, PyData.depthAll (toPys ds) = deps ds
  | [] => by simp [toPys, deps, PyData.depthAll]
  | x :: xs => by simp [toPys, deps, PyData.depthAll, dep_py x, deps_py xs]
end
mutual
theorem dok_py : ∀ d : D, dok d = true → (toPy d).canLay0 = true
  | .non, _ => by simp [toPy, PyData.canLay0]
  | .bl b, _ => by simp [toPy, PyData.canLay0]
  | .int i, _ => by simp [toPy, PyData.canLay0]
  | .str s, h => by simpa [toPy, PyData.canLay0, dok] using h
  | .tup xs, h => by
    have := doks_py xs (by simpa [dok] using h)
    simpa [toPy, PyData.canLay0] using this
  | .lst xs, h => by
    have := doks_py xs (by simpa [dok] using h)
    simpa [toPy, PyData.canLay0] using this
  | .ins _ _ _, h => by simp [dok] at h
theorem doks_py : ∀ ds : List D, doks ds = true → PyData.canLayAll0 (toPys ds) = true
  | [], _ => by simp [toPys, PyData.canLayAll0]
  | x :: xs, h => by
    simp only [doks, Bool.and_eq_true] at h
    simp [toPys, PyData.canLayAll0, dok_py x h.1, doks_py xs h.2]
end
mutual
theorem deq_py : ∀ d e : D, dok d = true → dok e = true → PyData.eqv (toPy d) (toPy e) = deq d e
  | .non, e, _, h => by cases e <;> simp_all [toPy, deq, PyData.eqv, dok]
  | .bl b, e, _, h => by cases e <;> simp_all [toPy, deq, PyData.eqv, dok]
  | .int i, e, _, h => by cases e <;> simp_all [toPy, deq, PyData.eqv, dok]
  | .str s, e, _, h => by cases e <;> simp_all [toPy, deq, PyData.eqv, dok]
  | .ins _ _ _, e, h, _ => by simp [dok] at h
  | .tup xs, e, h1, h => by
    cases e with
    | tup ys =>
      have q := deqs_py xs ys (by simpa [dok] using h1) (by simpa [dok] using h)
      simp [toPy, deq, PyData.eqv, q]
    | ins _ _ _ => simp [dok] at h
    | non => simp [toPy, deq, PyData.eqv]
    | bl _ => simp [toPy, deq, PyData.eqv]
    | int _ => simp [toPy, deq, PyData.eqv]
    | str _ => simp [toPy, deq, PyData.eqv]
    | lst _ => simp [toPy, deq, PyData.eqv]
  | .lst xs, e, h1, h => by
    cases e with
    | lst ys =>
      have q := deqs_py xs ys (by simpa [dok] using h1) (by simpa [dok] using h)
      simp [toPy, deq, PyData.eqv, q]
    | ins _ _ _ => simp [dok] at h
    | non => simp [toPy, deq, PyData.eqv]
    | bl _ => simp [toPy, deq, PyData.eqv]
    | int _ => simp [toPy, deq, PyData.eqv]
    | str _ => simp [toPy, deq, PyData.eqv]
    | tup _ => simp [toPy, deq, PyData.eqv]
theorem deqs_py : ∀ ds es : List D, doks ds = true → doks es = true → PyData.eqvAll (toPys ds) (toPys es) = deqs ds es
  | [], [], _, _ => by simp [toPys, deqs, PyData.eqvAll]
  | [], _ :: _, _, _ => by simp [toPys, deqs, PyData.eqvAll]
  | _ :: _, [], _, _ => by simp [toPys, deqs, PyData.eqvAll]
  | x :: xs, y :: ys, h1, h2 => by
    simp only [doks, Bool.and_eq_true] at h1 h2
    simp [toPys, deqs, PyData.eqvAll, deq_py x y h1.1 h2.1, deqs_py xs ys h1.2 h2.2]
end
mutual
theorem dp_of : ∀ {d : D} {v : V}, dok d = true → Dn c H ad v d → Dp c.K H v (toPy d)
  | _, _, _, .non => by rw [toPy]; exact .non
  | _, _, _, .bl b => by rw [toPy]; exact .bl b
  | _, _, _, .int i => by rw [toPy]; exact .int i
  | _, _, _, .str x => by rw [toPy]; exact .str x
  | _, _, h, .tup n r t => by rw [toPy]; exact .tup (.inl r) (dps_of (by simpa [dok] using h) t)
  | _, _, h, .ktup r t => by rw [toPy]; exact .tup (.inr r) (dps_of (by simpa [dok] using h) t)
  | _, _, h, .lst n r t => by rw [toPy]; exact .lst (SqL.of r) (dps_of (by simpa [dok] using h) t)
  | _, _, h, .ins n m e k t => by simp [dok] at h
theorem dps_of : ∀ {ds : List D} {vs : List V}, doks ds = true → Dns c H ad vs ds → DpAll c.K H vs (toPys ds)
  | _, _, _, .nil => by rw [toPys]; exact .nil
  | _, _, h, .cons a b => by
    simp only [doks, Bool.and_eq_true] at h
    rw [toPys]
    exact .cons (dp_of h.1 a) (dps_of h.2 b)
end
/-- what is compared -/
def datOf (mu : Mu) : Ar → Option D
  | .d x => some x
  | .cel i => match mu[i]? with
    | some (.lst xs) => some (.lst xs)
    | _ => none
  | _ => none
theorem datOf_ok {x : Ar} {d : D} (s : Sto c H ad mu) (a : An c H ad v x) (h : datOf mu x = some d) (hd : dok d = true) : Dp c.K H v (toPy d) := by
  unfold datOf at h
  split at h
  · cases h
    exact dp_of hd (d_of a)
  · split at h
    · rename_i hm
      cases h
      obtain ⟨p, us, rfl, _, hp, tp⟩ := s.rd a hm
      rw [toPy]
      exact .lst (SqL.of hp) (dps_of (by simpa [dok] using hd) tp)
    · cases h
  · cases h
def fEq (neg : Bool) : Mu → Ar → Ar → Option D := fun mu x y => match datOf mu x, datOf mu y with
  | some d, some e => if dok d = true ∧ dok e = true ∧ dep d ≤ 64 ∧ dep e ≤ 64 then some (.bl (deq d e != neg)) else none
  | _, _ => none
theorem shaped_of {d : D} (h1 : dok d = true) (h2 : dep d ≤ 64) : SeqAt.shaped (toPy d) = true := by
  unfold SeqAt.shaped
  rw [dok_py d h1, dep_py]
  simpa using h2
theorem od_eq : OpD c (rEqD c.K) (fEq false) := fun H ad mu v w x y z s a b h Q q => by
  unfold fEq at h
  split at h
  · split at h
    · rename_i d e hd he hc
      cases h
      obtain ⟨h1, h2, h3, h4⟩ := hc
      refine ⟨toPy d, toPy e, datOf_ok s a hd h1, datOf_ok s b he h2, shaped_of h1 h3, shaped_of h2 h4, q _ H (.refl _) ?_⟩
      rw [deq_py d e h1 h2, Bool.bne_false]
      exact .bl _
    · cases h
  · cases h
theorem od_ne : OpD c (rNeD c.K) (fEq true) := fun H ad mu v w x y z s a b h Q q => by
  unfold fEq at h
  split at h
  · split at h
    · rename_i d e hd he hc
      cases h
      obtain ⟨h1, h2, h3, h4⟩ := hc
      refine ⟨toPy d, toPy e, datOf_ok s a hd h1, datOf_ok s b he h2, shaped_of h1 h3, shaped_of h2 h4, q _ H (.refl _) ?_⟩
      rw [deq_py d e h1 h2, Bool.bne_true]
      exact .bl _
    · cases h
  · cases h

/-! ### x[i] -/
def fIx : Mu → Ar → Ar → Option D := fun mu x y => match x, y with
  | .d (.tup xs), .d (.int i) => atI xs i
  | .d (.lst xs), .d (.int i) => atI xs i
  | .cel n, .d (.int i) => match mu[n]? with
    | some (.lst xs) => atI xs i
    | _ => none
  | .scr ns, .d (.int i) => match atI ns i with
    | some k => some (.int k)
    | none => none
  | .d (.str s), .d (.int i) => if s.length ≤ 16777216 then (match atI s.cps.toList i with
    | some ch => some (.str ⟨#[ch]⟩)
    | none => none) else none
  | _, _ => none
theorem atI_dns {vs : List V} {ds : List D} {i : Int} {d : D} (t : Dns c H ad vs ds) (h : atI ds i = some d) : ∃ w, atI vs i = some w ∧ Dn c H ad w d := by
  unfold atI at h ⊢
  rw [t.length]
  cases e : ixN ds.length i with
  | none => rw [e] at h; cases h
  | some j =>
    rw [e] at h
    exact t.get h
theorem atI_ints {ns : List Int} {i k : Int} (h : atI ns i = some k) : atI (ns.map V.int) i = some (.int k) := by
  unfold atI at h ⊢
  rw [List.length_map]
  cases e : ixN ns.length i with
  | none => rw [e] at h; cases h
  | some j =>
    rw [e] at h
    have h' : ns[j]? = some k := h
    show (ns.map V.int)[j]? = some (.int k)
    rw [List.getElem?_map, h']
    rfl
theorem od_ix : OpD c (rIx c.K) fIx := fun H ad mu v w x y z s a b h Q q => by
  unfold fIx at h
  split at h
  · obtain ⟨p, us, rfl, hp, tp⟩ := tup_of a
    obtain ⟨u, hu, du⟩ := atI_dns tp h
    rw [int_of b]
    exact .inr (.inl ⟨p, us, _, u, rfl, rfl, hp, hu, q _ H (.refl _) du⟩)
  · obtain ⟨p, us, rfl, _, hp, _, tp⟩ := lst_of2 a
    obtain ⟨u, hu, du⟩ := atI_dns tp h
    rw [int_of b]
    exact .inl ⟨p, us, _, u, rfl, rfl, SqL.of hp, hu, q _ H (.refl _) du⟩
  · split at h
    · rename_i hm
      obtain ⟨p, us, rfl, _, hp, tp⟩ := s.rd a hm
      obtain ⟨u, hu, du⟩ := atI_dns tp h
      rw [int_of b]
      exact .inl ⟨p, us, _, u, rfl, rfl, SqL.of hp, hu, q _ H (.refl _) du⟩
    · cases h
  · split at h
    · rename_i k hk
      cases h
      rw [int_of b]
      cases a with
      | scr n r e => exact .inl ⟨_, _, _, _, rfl, rfl, r, atI_ints hk, q _ H (.refl _) (.int _)⟩
      | kscr r => exact .inl ⟨_, _, _, _, rfl, rfl, r H, atI_ints hk, q _ H (.refl _) (.int _)⟩
    · cases h
  · split at h
    · rename_i hl
      split at h
      · rename_i ch hc
        cases h
        rw [int_of b, str_of a]
        exact .inr (.inr ⟨_, _, ch, rfl, rfl, by rw [line]; exact hl, hc, q _ H (.refl _) (.str _)⟩)
      · cases h
    · cases h
  · cases h

/-! ### x[a:b] -/
abbrev MO := Gm → Mu → R (Option Int)
def lftO (c : Ct) (W : WX) (m : MO) : TO := fun σ H Q => ∃ g ad mu, Sl c H ad σ g ∧ Sto c H ad mu ∧ OutG c W σ H ad (fun _ _ b b' => b = b') (m g mu) Q
def mNoP : MO := fun _ mu => .ok none mu
def mPart (e : ME) : MO := fun g mu => (e g mu).bd fun x m => match x with
  | .d (.int i) => .ok (some i) m
  | _ => .stuck
theorem dpo_none : PO X none (lftO c W mNoP) := po_none.weak fun σ H Q ⟨g, ad, mu, hS, hT, o⟩ => o none H ad (.refl _ _) hT rfl
theorem dpo_some {e : Expr} {m : ME} (h : PE X e (lft c W m)) : PO X (some e) (lftO c W (mPart m)) := (po_some h).weak fun σ H Q ⟨g, ad, mu, hS, hT, o⟩ => by
  refine ⟨g, ad, mu, hS, hT, OutG.imp (OutG.bd (rel := An c) o) fun v H1 ⟨ad1, mu1, x, ch1, t1, dx, o1⟩ => ?_⟩
  split at o1
  · exact ⟨_, int_of dx, o1 _ H1 ad1 (.refl _ _) t1 rfl⟩
  · exact o1.elim
def cutD (xs : List D) (lo hi : Option Int) : List D := (xs.drop (HT.sIx xs.length 0 lo)).take (HT.sIx xs.length xs.length hi - HT.sIx xs.length 0 lo)
theorem cut_dns {vs : List V} {ds : List D} (t : Dns c H ad vs ds) (lo hi : Option Int) : Dns c H ad (cutV vs lo hi) (cutD ds lo hi) := by
  unfold cutV cutD
  rw [t.length]
  exact (t.drop _).take _
def fSl : Mu → Ar → Option Int → Option Int → Option D := fun mu x lo hi => match x with
  | .d (.tup xs) => some (.tup (cutD xs lo hi))
  | .d (.lst xs) => some (.lst (cutD xs lo hi))
  | .cel n => match mu[n]? with
    | some (.lst xs) => some (.lst (cutD xs lo hi))
    | _ => none
  | _ => none
def rSlS (K : PySem.W.Frag) : V → Option Int → Option Int → Hp → VK → Prop := fun x lo hi H Q => rSlA K x lo hi H Q ∨ rSlL K x lo hi H Q
def mSl (f : Mu → Ar → Option Int → Option Int → Option D) (e : ME) (lo hi : MO) : ME := fun g mu => (e g mu).bd fun x m => (lo g m).bd fun l m1 => (hi g m1).bd fun h m2 => match f m2 x l h with
  | some z => .ok (.d z) m2
  | none => .stuck
def SlD (c : Ct) (r : V → Option Int → Option Int → Hp → VK → Prop) (f : Mu → Ar → Option Int → Option Int → Option D) : Prop :=
  ∀ (H : Hp) (ad : List Addr) (mu : Mu) (v : V) (x : Ar) (lo hi : Option Int) (z : D), Sto c H ad mu → An c H ad v x → f mu x lo hi = some z → ∀ Q : VK, (∀ u H', Ex H H' → Dn c H' ad u z → Q u H') → r v lo hi H Q
theorem cut_whole {xs : List D} {lo hi : Option Int} (h : HT.sIx xs.length 0 lo = 0 ∧ HT.sIx xs.length xs.length hi = xs.length) : cutD xs lo hi = xs := by
  unfold cutD
  rw [h.1, h.2]
  simp
theorem sd_seq : SlD c (rSlS c.K) fSl := fun H ad mu v x lo hi z s a h Q q => by
  unfold fSl at h
  split at h
  · cases h
    obtain ⟨p, us, rfl, hp, tp⟩ := tup_of a
    refine .inl ⟨p, us, rfl, hp, fun e => ?_, fun _ r hr => q _ _ (.new hr) (new_tup s hr (cut_dns tp lo hi))⟩
    rw [tp.length] at e
    rw [cut_whole e] at q
    exact q _ H (.refl _) (d_of a)
  · cases h
    obtain ⟨p, us, rfl, _, hp, _, tp⟩ := lst_of2 a
    exact .inr ⟨p, us, rfl, SqL.of hp, fun r hr => q _ _ (.new hr) (new_lst s hr (cut_dns tp lo hi))⟩
  · split at h
    · rename_i hm
      cases h
      obtain ⟨p, us, rfl, _, hp, tp⟩ := s.rd a hm
      exact .inr ⟨p, us, rfl, SqL.of hp, fun r hr => q _ _ (.new hr) (new_lst s hr (cut_dns tp lo hi))⟩
    · cases h
  · cases h
theorem sl_seq : SlR X (rSlS X.K) := sl_tupA.or sl_list
theorem de_sl {r : V → Option Int → Option Int → Hp → VK → Prop} {f : Mu → Ar → Option Int → Option Int → Option D} {e : Expr} {lo hi : Option Expr} {m : ME} {ml mh : MO} {pos p2 : Pos} (hr : SlR X r) (hf : SlD c r f) (he : PE X e (lft c W m)) (hl : PO X lo (lftO c W ml)) (hu : PO X hi (lftO c W mh)) : PE X (.Subscript e (.Slice lo hi none p2) pos) (lft c W (mSl f m ml mh)) :=
  (pe_slice hr he hl hu).weak fun σ H Q ⟨g, ad, mu, hS, hT, o⟩ => by
    refine ⟨g, ad, mu, hS, hT, OutG.imp (OutG.bd (rel := An c) o) fun v H1 ⟨ad1, mu1, x, ch1, t1, dx, o1⟩ => ?_⟩
    refine ⟨g, ad1, mu1, hS.ch ch1, t1, OutG.imp (OutG.bd (rel := fun _ _ b b' => b = b') o1) fun l H2 ⟨ad2, mu2, l', ch2, t2, el, o2⟩ => ?_⟩
    refine ⟨g, ad2, mu2, (hS.ch ch1).ch ch2, t2, OutG.imp (OutG.bd (rel := fun _ _ b b' => b = b') o2) fun u H3 ⟨ad3, mu3, u', ch3, t3, eu, o3⟩ => ?_⟩
    cases el
    cases eu
    split at o3
    · rename_i z hz
      exact hf H3 ad3 mu3 v x l u z t3 ((dx.ch ch2).ch ch3) hz Q fun w H' e' d => o3 w H' ad3 (.ex e') (t3.ex e') (.d d)
    · exact o3.elim
/-- a text's slice -/
def fSlT : Mu → Ar → Option Int → Option Int → Option D := fun _ x lo hi => match x with
  | .d (.str s) => if s.length ≤ 16777216 then some (.str (cutS s lo hi)) else none
  | _ => none
end
end Dw
namespace Dw
open PySem PySem.Spec PyProof.Rows L2
section
variable {X : Cx} {c : Ct} {W : WX} {H : Hp} {ad : List Addr} {mu : Mu} {v : V}
theorem sd_txt : SlD c L2.rSlS fSlT := fun H ad mu v x lo hi z s a h Q q => by
  unfold fSlT at h
  split at h
  · split at h
    · rename_i hl
      cases h
      rw [str_of a]
      exact ⟨_, rfl, by rw [line]; exact hl, q _ H (.refl _) (.str _)⟩
    · cases h
  · cases h

/-! ### len, abs, int, str, list, tuple, max, all, any, sum -/
def lenD (mu : Mu) : Ar → Option Nat
  | .d (.tup xs) => some xs.length
  | .d (.lst xs) => some xs.length
  | .cel n => match mu[n]? with
    | some (.lst xs) => some xs.length
    | _ => none
  | .scr ns => some ns.length
  | .d (.str s) => if s.length ≤ 16777216 then some s.length else none
  | _ => none
def fLen : Mu → List Ar → Option D := fun mu xs => match xs with
  | [x] => match lenD mu x with
    | some n => some (.int (n : Nat))
    | none => none
  | _ => none
theorem cd_len : CallD c (fun xs H Q => ∃ x n, xs = [x] ∧ LenV c.K x H n ∧ Q (.int n) H) fLen := fun H ad mu vs xs z s a h Q q => by
  unfold fLen at h
  split at h
  · split at h
    · rename_i x _ n hn
      cases h
      obtain ⟨v, rfl, b⟩ := a.one
      refine ⟨v, n, rfl, ?_, q _ H (.refl _) (.int _)⟩
      unfold lenD at hn
      split at hn
      · cases hn
        obtain ⟨p, us, rfl, hp, tp⟩ := tup_of b
        exact .inr ⟨us, hp, tp.length.symm⟩
      · cases hn
        obtain ⟨p, us, rfl, _, hp, _, tp⟩ := lst_of2 b
        exact .inl ⟨us, SqL.of hp, tp.length.symm⟩
      · split at hn
        · rename_i hm
          cases hn
          obtain ⟨p, us, rfl, _, hp, tp⟩ := s.rd b hm
          exact .inl ⟨us, SqL.of hp, tp.length.symm⟩
        · cases hn
      · cases hn
        cases b with
        | scr n r e => exact .inl ⟨_, r, by rw [List.length_map]⟩
        | kscr r => exact .inl ⟨_, r H, by rw [List.length_map]⟩
      · split at hn
        · rename_i hl
          cases hn
          rw [str_of b]
          exact ⟨by rw [line]; exact hl, rfl⟩
        · cases hn
      · cases hn
    · cases h
  · cases h
def fAbs : Mu → List Ar → Option D := fun _ xs => match xs with
  | [.d (.int i)] => some (.int (if i < 0 then -i else i))
  | _ => none
theorem cd_abs : CallD c (fun xs H Q => ∃ i, xs = [.int i] ∧ Q (.int (if i < 0 then -i else i)) H) fAbs := fun H ad mu vs xs z s a h Q q => by
  unfold fAbs at h
  split at h
  · cases h
    obtain ⟨v, rfl, b⟩ := a.one
    rw [int_of b]
    exact ⟨_, rfl, q _ H (.refl _) (.int _)⟩
  · cases h
def fInt : Mu → List Ar → Option D := fun _ xs => match xs with
  | [.d (.int i)] => some (.int i)
  | [.d (.bl b)] => some (.int (if b then 1 else 0))
  | _ => none
theorem cd_int : CallD c (fun xs H Q => (∃ i, xs = [.int i] ∧ Q (.int i) H) ∨ ∃ k, xs = [.bl k] ∧ Q (.int (if k then 1 else 0)) H) fInt := fun H ad mu vs xs z s a h Q q => by
  unfold fInt at h
  split at h
  · cases h
    obtain ⟨v, rfl, b⟩ := a.one
    rw [int_of b]
    exact .inl ⟨_, rfl, q _ H (.refl _) (.int _)⟩
  · cases h
    obtain ⟨v, rfl, b⟩ := a.one
    rw [bl_of b]
    exact .inr ⟨_, rfl, q _ H (.refl _) (.int _)⟩
  · cases h
def fStr : Mu → List Ar → Option D := fun _ xs => match xs with
  | [.d (.int i)] => if i.natAbs.log2 < 1920 then some (.str (toString i)) else none
  | _ => none
theorem cd_str : CallD c (fun xs H Q => ∃ i, xs = [.int i] ∧ i.natAbs.log2 < 1920 ∧ Q (.str (toString i)) H) fStr := fun H ad mu vs xs z s a h Q q => by
  unfold fStr at h
  split at h
  · split at h
    · rename_i hl
      cases h
      obtain ⟨v, rfl, b⟩ := a.one
      rw [int_of b]
      exact ⟨_, rfl, hl, q _ H (.refl _) (.str _)⟩
    · cases h
  · cases h
/-- the items of a list or tuple -/
def itsD (mu : Mu) : Ar → Option (List D)
  | .d (.tup xs) => some xs
  | .d (.lst xs) => some xs
  | .cel n => match mu[n]? with
    | some (.lst xs) => some xs
    | _ => none
  | _ => none
theorem itsD_ok {x : Ar} {ds : List D} (s : Sto c H ad mu) (b : An c H ad v x) (h : itsD mu x = some ds) : ∃ p us, v = .ref p ∧ (SqL c.K H p us ∨ SqT c.K H p us) ∧ Dns c H ad us ds := by
  unfold itsD at h
  split at h
  · cases h
    obtain ⟨p, us, rfl, hp, tp⟩ := tup_of b
    exact ⟨p, us, rfl, .inr hp, tp⟩
  · cases h
    obtain ⟨p, us, rfl, _, hp, _, tp⟩ := lst_of2 b
    exact ⟨p, us, rfl, .inl (SqL.of hp), tp⟩
  · split at h
    · rename_i hm
      cases h
      obtain ⟨p, us, rfl, _, hp, tp⟩ := s.rd b hm
      exact ⟨p, us, rfl, .inl (SqL.of hp), tp⟩
    · cases h
  · cases h
def fList : Mu → List Ar → Option D := fun mu xs => match xs with
  | [x] => match itsD mu x with
    | some ds => some (.lst ds)
    | none => none
  | _ => none
theorem cd_list : CallD c (fun xs H Q => ∃ p ys, xs = [.ref p] ∧ (SqL c.K H p ys ∨ SqT c.K H p ys) ∧ ∀ l, H l = none → Q (.ref l) (upd H l (.lst ys))) fList := fun H ad mu vs xs z s a h Q q => by
  unfold fList at h
  split at h
  · split at h
    · rename_i ds hd
      cases h
      obtain ⟨v, rfl, b⟩ := a.one
      obtain ⟨p, us, rfl, hp, tp⟩ := itsD_ok s b hd
      exact ⟨p, us, rfl, hp, fun l hl => q _ _ (.new hl) (new_lst s hl tp)⟩
    · cases h
  · cases h
def fTuple : Mu → List Ar → Option D := fun mu xs => match xs with
  | [x] => match itsD mu x with
    | some ds => some (.tup ds)
    | none => none
  | _ => none
theorem cd_tuple : CallD c (fun xs H Q => ∃ p ys, xs = [.ref p] ∧ ((SqL c.K H p ys ∧ ∀ l, H l = none → Q (.ref l) (upd H l (.tup ys))) ∨ (SqT c.K H p ys ∧ Q (.ref p) H))) fTuple := fun H ad mu vs xs z s a h Q q => by
  unfold fTuple at h
  split at h
  · split at h
    · rename_i x _ ds hd
      cases h
      obtain ⟨v, rfl, b⟩ := a.one
      unfold itsD at hd
      split at hd
      · cases hd
        obtain ⟨p, us, rfl, hp, tp⟩ := tup_of b
        exact ⟨p, us, rfl, .inr ⟨hp, q _ H (.refl _) (d_of b)⟩⟩
      · cases hd
        obtain ⟨p, us, rfl, _, hp, _, tp⟩ := lst_of2 b
        exact ⟨p, us, rfl, .inl ⟨SqL.of hp, fun l hl => q _ _ (.new hl) (new_tup s hl tp)⟩⟩
      · split at hd
        · rename_i hm
          cases hd
          obtain ⟨p, us, rfl, _, hp, tp⟩ := s.rd b hm
          exact ⟨p, us, rfl, .inl ⟨SqL.of hp, fun l hl => q _ _ (.new hl) (new_tup s hl tp)⟩⟩
        · cases hd
      · cases hd
    · cases h
  · cases h
def fMax2 : Mu → List Ar → Option D := fun _ xs => match xs with
  | [.d (.int i), .d (.int j)] => some (.int (if j > i then j else i))
  | _ => none
theorem cd_max2 : CallD c (fun xs H Q => ∃ i j, xs = [.int i, .int j] ∧ Q (.int (if j > i then j else i)) H) fMax2 := fun H ad mu vs xs z s a h Q q => by
  unfold fMax2 at h
  split at h
  · cases h
    obtain ⟨v, w, rfl, b1, b2⟩ := a.two
    rw [int_of b1, int_of b2]
    exact ⟨_, _, rfl, q _ H (.refl _) (.int _)⟩
  · cases h
def fMin2 : Mu → List Ar → Option D := fun _ xs => match xs with
  | [.d (.int i), .d (.int j)] => some (.int (if j < i then j else i))
  | _ => none
theorem cd_min2 : CallD c (fun xs H Q => ∃ i j, xs = [.int i, .int j] ∧ Q (.int (if j < i then j else i)) H) fMin2 := fun H ad mu vs xs z s a h Q q => by
  unfold fMin2 at h
  split at h
  · cases h
    obtain ⟨v, w, rfl, b1, b2⟩ := a.two
    rw [int_of b1, int_of b2]
    exact ⟨_, _, rfl, q _ H (.refl _) (.int _)⟩
  · cases h
/-- the bools, the ints of a list -/
def blsD : List D → Option (List Bool)
  | [] => some []
  | .bl b :: r => match blsD r with
    | some bs => some (b :: bs)
    | none => none
  | _ :: _ => none
def intsD : List D → Option (List Int)
  | [] => some []
  | .int b :: r => match intsD r with
    | some bs => some (b :: bs)
    | none => none
  | _ :: _ => none
theorem blsD_ok : ∀ {ds : List D} {vs : List V} {bs : List Bool}, Dns c H ad vs ds → blsD ds = some bs → vs = bs.map V.bl
  | [], _, _, .nil, e => by cases e; rfl
  | .bl b :: r, _, _, .cons (.bl _) t, e => by
    unfold blsD at e
    split at e
    · rename_i bs hb
      cases e
      rw [blsD_ok t hb]
      rfl
    · cases e
  | .int _ :: _, _, _, .cons _ _, e => by cases e
  | .non :: _, _, _, .cons _ _, e => by cases e
  | .str _ :: _, _, _, .cons _ _, e => by cases e
  | .tup _ :: _, _, _, .cons _ _, e => by cases e
  | .lst _ :: _, _, _, .cons _ _, e => by cases e
  | .ins _ _ _ :: _, _, _, .cons _ _, e => by cases e
theorem intsD_ok : ∀ {ds : List D} {vs : List V} {bs : List Int}, Dns c H ad vs ds → intsD ds = some bs → vs = bs.map V.int
  | [], _, _, .nil, e => by cases e; rfl
  | .int b :: r, _, _, .cons (.int _) t, e => by
    unfold intsD at e
    split at e
    · rename_i bs hb
      cases e
      rw [intsD_ok t hb]
      rfl
    · cases e
  | .bl _ :: _, _, _, .cons _ _, e => by cases e
  | .non :: _, _, _, .cons _ _, e => by cases e
  | .str _ :: _, _, _, .cons _ _, e => by cases e
  | .tup _ :: _, _, _, .cons _ _, e => by cases e
  | .lst _ :: _, _, _, .cons _ _, e => by cases e
  | .ins _ _ _ :: _, _, _, .cons _ _, e => by cases e
/-- a list (not a tuple) -/
def lstD (mu : Mu) : Ar → Option (List D)
  | .d (.lst xs) => some xs
  | .cel n => match mu[n]? with
    | some (.lst xs) => some xs
    | _ => none
  | _ => none
theorem lstD_ok {x : Ar} {ds : List D} (s : Sto c H ad mu) (b : An c H ad v x) (h : lstD mu x = some ds) : ∃ p us, v = .ref p ∧ H p = some (.lst us) ∧ Dns c H ad us ds := by
  unfold lstD at h
  split at h
  · cases h
    obtain ⟨p, us, rfl, _, hp, _, tp⟩ := lst_of2 b
    exact ⟨p, us, rfl, hp, tp⟩
  · split at h
    · rename_i hm
      cases h
      obtain ⟨p, us, rfl, _, hp, tp⟩ := s.rd b hm
      exact ⟨p, us, rfl, hp, tp⟩
    · cases h
  · cases h
def fAll : Mu → List Ar → Option D := fun mu xs => match xs with
  | [x] => match (lstD mu x).bind blsD with
    | some bs => some (.bl (bs.all id))
    | none => none
  | _ => none
def fAny : Mu → List Ar → Option D := fun mu xs => match xs with
  | [x] => match (lstD mu x).bind blsD with
    | some bs => some (.bl (bs.any id))
    | none => none
  | _ => none
def fSum : Mu → List Ar → Option D := fun mu xs => match xs with
  | [x] => match (lstD mu x).bind intsD with
    | some ns => some (.int ns.sum)
    | none => none
  | _ => none
theorem cd_all : CallD c (rAll c.K) fAll := fun H ad mu vs xs z s a h Q q => by
  unfold fAll at h
  split at h
  · split at h
    · rename_i bs hb
      cases h
      obtain ⟨v, rfl, b⟩ := a.one
      obtain ⟨ds, hd, hb⟩ := Option.bind_eq_some_iff.mp hb
      obtain ⟨p, us, rfl, hp, tp⟩ := lstD_ok s b hd
      have := blsD_ok tp hb
      subst this
      exact ⟨p, bs, rfl, SqL.of hp, q _ H (.refl _) (.bl _)⟩
    · cases h
  · cases h
theorem cd_any : CallD c (rAny c.K) fAny := fun H ad mu vs xs z s a h Q q => by
  unfold fAny at h
  split at h
  · split at h
    · rename_i bs hb
      cases h
      obtain ⟨v, rfl, b⟩ := a.one
      obtain ⟨ds, hd, hb⟩ := Option.bind_eq_some_iff.mp hb
      obtain ⟨p, us, rfl, hp, tp⟩ := lstD_ok s b hd
      have := blsD_ok tp hb
      subst this
      exact ⟨p, bs, rfl, SqL.of hp, q _ H (.refl _) (.bl _)⟩
    · cases h
  · cases h
theorem cd_sum : CallD c (rSum c.K) fSum := fun H ad mu vs xs z s a h Q q => by
  unfold fSum at h
  split at h
  · split at h
    · rename_i bs hb
      cases h
      obtain ⟨v, rfl, b⟩ := a.one
      obtain ⟨ds, hd, hb⟩ := Option.bind_eq_some_iff.mp hb
      obtain ⟨p, us, rfl, hp, tp⟩ := lstD_ok s b hd
      have := intsD_ok tp hb
      subst this
      exact ⟨p, bs, rfl, SqL.of hp, q _ H (.refl _) (.int _)⟩
    · cases h
  · cases h

/-! ### isinstance -/
/-- whether the data is of the built-in type; kc: classes of the text whose instances are not -/
def isTy (kc : List Str) (T : String) : D → Option Bool
  | .non => some false
  | .bl _ => some (T == "bool" || T == "int")
  | .int _ => some (T == "int")
  | .str _ => some (T == "str")
  | .tup _ => some (T == "tuple")
  | .lst _ => some (T == "list")
  | .ins C _ _ => if C ∈ kc then some false else none
def isTyA (kc : List Str) (T : String) (mu : Mu) : Ar → Option Bool
  | .d x => isTy kc T x
  | .cel n => match mu[n]? with
    | some (.lst _) => some (T == "list")
    | _ => none
  | _ => none
/-- the built-in types that are served -/
def tys : List String := ["int", "bool", "str", "tuple", "list"]
theorem kb (T : String) (hT : T ∈ tys) : kitB "NoneType" T = some false ∧ kitB "bool" T = some (T == "bool" || T == "int") ∧ kitB "int" T = some (T == "int") ∧ kitB "str" T = some (T == "str") ∧ kitB "tuple" T = some (T == "tuple") ∧ kitB "list" T = some (T == "list") := by
  simp only [tys, List.mem_cons, List.not_mem_nil, or_false] at hT
  rcases hT with rfl | rfl | rfl | rfl | rfl <;> (refine ⟨?_, ?_, ?_, ?_, ?_, ?_⟩ <;> decide +kernel)
/-- what isinstance asks of a class of the text -/
structure ClsI (K : PySem.W.Frag) (C : Addr) : Prop where
  cl : Cls K C
  ha : PySem.W.findIn K (.ref C) "__class__" = some (some (.builtin "object.__class__"))
  hn : PySem.W.specialIn K (.builtin "object.__class__") "__get__" = some (some (.builtin "getset_descriptor.__get__"))
  htk : PySem.W.takesIn K (.builtin "object.__class__") = some true
  hm : PySem.W.mroIn K C (.type "object") = some true
theorem tyx {K : PySem.W.Frag} {p : Addr} {us : List V} (h : Rd H p (.tup us)) : TyX K H (.ref p) (.type "tuple") := by
  rcases h with h | ⟨o, h⟩
  · exact .base (.tup h)
  · exact .fTuple h
/-- the type of data, as isinstance sees it -/
theorem isTy_ok {kc : List Str} {T : String} {x : D} {b : Bool} (hT : T ∈ tys) (hk : ∀ C ∈ kc, ∀ Ca, c.mg C = some (.ref Ca) → ClsI c.K Ca ∧ PySem.W.kitOne c.K (.ref Ca) (.type T) = some false) (a : Dn c H ad v x) (h : isTy kc T x = some b) :
    ∃ t, TyX c.K H v t ∧ PySem.W.kitOne c.K t (.type T) = some b := by
  obtain ⟨k1, k2, k3, k4, k5, k6⟩ := kb T hT
  cases a with
  | non => cases h; exact ⟨_, .base .non, kit_ty k1⟩
  | bl x => cases h; exact ⟨_, .base (.bl x), kit_ty k2⟩
  | int x => cases h; exact ⟨_, .base (.int x), kit_ty k3⟩
  | str x => cases h; exact ⟨_, .base (.str x), kit_ty k4⟩
  | tup n r t => cases h; exact ⟨_, tyx r, kit_ty k5⟩
  | ktup r t =>
    cases h
    obtain ⟨o, its, n, e, hc, _⟩ := r
    exact ⟨_, .kTuple e hc, kit_ty k5⟩
  | lst n r t => cases h; exact ⟨_, .base (.lst r), kit_ty k6⟩
  | @ins a Ca dx fs C ks ds n m e k t =>
    have h' : (if C ∈ kc then some false else none) = some b := h
    split at h'
    · rename_i hin
      cases h'
      obtain ⟨q, kf⟩ := hk C hin Ca m
      exact ⟨_, .base (.ins e q.cl q.ha q.hn q.htk q.hm), kf⟩
    · cases h'
theorem isTyA_ok {kc : List Str} {T : String} {x : Ar} {b : Bool} (hT : T ∈ tys) (hk : ∀ C ∈ kc, ∀ Ca, c.mg C = some (.ref Ca) → ClsI c.K Ca ∧ PySem.W.kitOne c.K (.ref Ca) (.type T) = some false) (s : Sto c H ad mu) (a : An c H ad v x) (h : isTyA kc T mu x = some b) :
    ∃ t, TyX c.K H v t ∧ PySem.W.kitOne c.K t (.type T) = some b := by
  unfold isTyA at h
  split at h
  · exact isTy_ok hT hk (d_of a) h
  · split at h
    · rename_i hm
      cases h
      obtain ⟨p, us, rfl, _, hp, tp⟩ := s.rd a hm
      exact ⟨_, .base (.lst hp), kit_ty (kb T hT).2.2.2.2.2⟩
    · cases h
  · cases h
def mIsi (kc : List Str) (T : String) (e : ME) : ME := fun g mu => (e g mu).bd fun x m => match isTyA kc T m x with
  | some b => .ok (.d (.bl b)) m
  | none => .stuck
theorem de_isi {kc : List Str} {T : String} {Ts : Str} {e : Expr} {m : ME} {p p2 pos : Pos} (hT : T ∈ tys) (hg : Gl X "isinstance") (hm : X.mg "isinstance" = none) (hgT : Gl X Ts) (hmT : X.mg Ts = none) (hvT : bootBuiltins Ts = some (.type T)) (hnT : Ts ≠ "__name__") (hdT : (Ts == ("__debug__" : Str)) = false) (hK : X.K = c.K)
    (hk : ∀ C ∈ kc, ∀ Ca, c.mg C = some (.ref Ca) → ClsI c.K Ca ∧ PySem.W.kitOne c.K (.ref Ca) (.type T) = some false) (he : PE X e (lft c W m))
    (h1 : starEach (e :: [.Name Ts p2]) X.env = (false, eval e X.env) :: starEach [.Name Ts p2] X.env := by rfl) (h2 : starEach (.Name Ts p2 :: []) X.env = (false, eval (.Name Ts p2) X.env) :: starEach [] X.env := by rfl) (hpl : (backTo pos (starEach [.Name Ts p2] X.env)).any (·.1) = false := by rfl) :
    PE X (.Call (.Name "isinstance" p) [e, .Name Ts p2] [] pos) (lft c W (mIsi kc T m)) :=
  (pe_callB call_isi hg hm (by decide +kernel) (pa_cons he (pa_cons (pe_bltn hgT hmT hvT (v := .ty T) rfl hnT hdT) pa_nil h2) h1) (by decide) (by decide) h1 hpl).weak fun σ H Q ⟨g, ad, mu, hS, hT0, o⟩ => by
    refine ⟨g, ad, mu, hS, hT0, OutG.imp (OutG.bd (rel := An c) o) fun v H1 ⟨ad1, mu1, x, ch1, t1, dx, o1⟩ => ?_⟩
    split at o1
    · rename_i b hb
      obtain ⟨t, ht, hkk⟩ := isTyA_ok hT hk t1 dx hb
      rw [hK]
      exact ⟨v, .ty T, t, .type T, b, rfl, .ty T, ht, hkk, o1 _ H1 ad1 (.refl _ _) t1 (.d (.bl b))⟩
    · exact o1.elim
/-- isinstance(x, C), C a class of the text -/
def isCl (C : Str) : D → Option Bool
  | .ins C' _ _ => if C' = C then some true else none
  | _ => some false
def mIsiC (C : Str) (e : ME) : ME := fun g mu => (e g mu).bd fun x m => match x with
  | .d x => (match isCl C x with
    | some b => .ok (.d (.bl b)) m
    | none => .stuck)
  | _ => .stuck
theorem de_isiC {C : Str} {Ca : Addr} {e : Expr} {m : ME} {p p2 pos : Pos} (hg : Gl X "isinstance") (hm : X.mg "isinstance" = none) (hgT : Gl X C) (hmT : X.mg C = some (.ref Ca)) (hmc : c.mg C = some (.ref Ca)) (hdT : (C == ("__debug__" : Str)) = false) (hK : X.K = c.K) (hI : ClsI c.K Ca) (hself : PySem.W.kitOne c.K (.ref Ca) (.ref Ca) = some true)
    (hb : ∀ T ∈ ["NoneType", "bool", "int", "str", "tuple", "list"], PySem.W.kitOne c.K (.type T) (.ref Ca) = some false) (he : PE X e (lft c W m))
    (h1 : starEach (e :: [.Name C p2]) X.env = (false, eval e X.env) :: starEach [.Name C p2] X.env := by rfl) (h2 : starEach (.Name C p2 :: []) X.env = (false, eval (.Name C p2) X.env) :: starEach [] X.env := by rfl) (hpl : (backTo pos (starEach [.Name C p2] X.env)).any (·.1) = false := by rfl) :
    PE X (.Call (.Name "isinstance" p) [e, .Name C p2] [] pos) (lft c W (mIsiC C m)) :=
  (pe_callB call_isi hg hm (by decide +kernel) (pa_cons he (pa_cons (pe_glob hgT hmT (v := .ref Ca) rfl hdT) pa_nil h2) h1) (by decide) (by decide) h1 hpl).weak fun σ H Q ⟨g, ad, mu, hS, hT0, o⟩ => by
    refine ⟨g, ad, mu, hS, hT0, OutG.imp (OutG.bd (rel := An c) o) fun v H1 ⟨ad1, mu1, x, ch1, t1, dx, o1⟩ => ?_⟩
    split at o1
    · rename_i x
      split at o1
      · rename_i b hbb
        rw [hK]
        have fin : ∀ t, TyX c.K H1 v t → PySem.W.kitOne c.K t (.ref Ca) = some b → rIsi c.K [v, .ref Ca] H1 Q := fun t ht hkk => ⟨v, .ref Ca, t, .ref Ca, b, rfl, .own Ca, ht, hkk, o1 _ H1 ad1 (.refl _ _) t1 (.d (.bl b))⟩
        have a := d_of dx
        cases a with
        | non => cases hbb; exact fin _ (.base .non) (hb _ (by simp))
        | bl x => cases hbb; exact fin _ (.base (.bl x)) (hb _ (by simp))
        | int x => cases hbb; exact fin _ (.base (.int x)) (hb _ (by simp))
        | str x => cases hbb; exact fin _ (.base (.str x)) (hb _ (by simp))
        | tup n r t => cases hbb; exact fin _ (tyx r) (hb _ (by simp))
        | ktup r t =>
          cases hbb
          obtain ⟨o, its, n, e, hc, _⟩ := r
          exact fin _ (.kTuple e hc) (hb _ (by simp))
        | lst n r t => cases hbb; exact fin _ (.base (.lst r)) (hb _ (by simp))
        | @ins a Ca' dx' fs C' ks ds n m' e k t =>
          have h' : (if C' = C then some true else none) = some b := hbb
          split at h'
          · rename_i hin
            subst hin
            cases h'
            have : Ca' = Ca := by rw [hmc] at m'; cases m'; rfl
            subst this
            exact fin _ (.base (.ins e hI.cl hI.ha hI.hn hI.htk hI.hm)) hself
          · cases h'
      · exact o1.elim
    · exact o1.elim

/-! ### len and == by own methods -/
def mLenOwn (C : Str) (F : List Ar → Mu → R Ar) (e : ME) : ME := fun g mu => (e g mu).bd fun x m => match insOf C m x with
  | some _ => (match F [x] m with
    | .ok (.d (.int n)) m1 => if 0 ≤ n ∧ n < 2 ^ 63 then .ok (.d (.int n)) m1 else .stuck
    | _ => .stuck)
  | none => .stuck
theorem ins_at {pins : List (Addr × Obj)} {σ : L2.St} {s : Shared} {a C dx : Addr} {fs : List (Str × V)} (I : Inv X pins σ H s) (e : H a = some (.ins C dx fs)) : ∃ od, PySem.W.InstAt s.heap a (PySem.W.instObj C dx) C (some od) := by
  obtain ⟨mA, O, _⟩ := ins_get I.hok e
  obtain ⟨od, J, _⟩ := O.look
  exact ⟨od, J⟩
theorem callr_lenO {k : Nat} {C f : Addr} {fd : FuncData} {ps : List Str} {sp : Sp} (hs : PySem.W.findIn X.K (.ref C) "__len__" = some (some (.ref f))) (hf : PySem.W.isFn X.K (.ref f) = true) (G : FnOk X.prog X.w X.K X.mg X.base (L2.CX X.prog X.w) k f fd ps sp) (hr : Room (k + 1) X.A) (hb : Binds X.K fd ps []) :
    CallR X (.builtin "len") (fun xs H Q => ∃ a dx fs, xs = [.ref a] ∧ H a = some (.ins C dx fs) ∧ sp [.ref a] H (fun v H2 => ∃ n, v = .int n ∧ (0 ≤ n ∧ n < 2 ^ 63) ∧ Q (.int n) H2) fun _ _ _ => False) := by
  intro pins s σ H xs us Q I r h
  obtain ⟨a, dx, fs, rfl, ha, q⟩ := h
  obtain ⟨u, rfl, ru⟩ := r.one
  cases (show u = Value.ref a from ru)
  obtain ⟨od, J⟩ := ins_at I ha
  obtain ⟨m, hF⟩ := I.fr
  have hl : ([Value.ref a] ++ ([] : List Value)).length = ps.length := by
    rw [← G.len _ _ _ _ q]
    rfl
  refine PySem.W.len_K hF I.ok.mod.kin J hs hf (wpAny_call (codeAny_mono (G.run X.A.in1 X.stack s H ⟨[.ref a], []⟩ [.ref a] [.ref a] _ _ hr.in1 I.env0.in1 (hb s [.ref a] I.kIn hl) (.cons rfl .nil) q) fun r3 s' hq => ?_))
  cases r3 with
  | error u => exact (passL (X := X)) pins σ H s u s' I hq
  | ok fl =>
    cases fl with
    | ret u =>
      obtain ⟨v, H', I3, rv, n, ev, hn, q3⟩ := I.after hq
      subst ev
      obtain ⟨t, e⟩ := (show ∃ t, u = Value.int n t from rv)
      cases e
      exact ⟨hn, ⟨.int n, H', I3.tok _, ⟨_, rfl⟩, q3⟩⟩
    | next => exact False.elim hq
    | brk => exact False.elim hq
    | cont => exact False.elim hq
theorem de_lenO {k : Nat} {C : Str} {Ca f : Addr} {fd : FuncData} {ps : List Str} {F : List Ar → Mu → R Ar} {e : Expr} {me : ME} {p pos : Pos} (hmc : c.mg C = some (.ref Ca)) (hg : Gl X "len") (hm : X.mg "len" = none) (hs : PySem.W.findIn X.K (.ref Ca) "__len__" = some (some (.ref f))) (hf : PySem.W.isFn X.K (.ref f) = true) (G : FnOk X.prog X.w X.K X.mg X.base (L2.CX X.prog X.w) k f fd ps (spOf c 1 F)) (hr : Room (k + 1) X.A) (hb : Binds X.K fd ps [])
    (he : PE X e (lft c W me)) (h1 : starEach (e :: []) X.env = (false, eval e X.env) :: starEach [] X.env := by rfl) (hpl : (backTo pos (starEach [] X.env)).any (·.1) = false := by rfl) : PE X (.Call (.Name "len" p) [e] [] pos) (lft c W (mLenOwn C F me)) :=
  (pe_callB (callr_lenO hs hf G hr hb) hg hm PySem.boot_len (pa_cons he pa_nil h1) (by decide) (by decide) h1 hpl).weak fun σ H Q ⟨g, ad, mu, hS, hT0, o⟩ => by
    refine ⟨g, ad, mu, hS, hT0, OutG.imp (OutG.bd (rel := An c) o) fun v H1 ⟨ad1, mu1, x, ch1, t1, dx, o1⟩ => ?_⟩
    split at o1
    · rename_i ksd hi
      obtain ⟨ks, ds⟩ := ksd
      obtain ⟨q, Ca', dd, fs, rfl, m', e', k', t'⟩ := insOf_ok t1 dx hi
      have : Ca' = Ca := by rw [hmc] at m'; cases m'; rfl
      subst this
      refine ⟨q, dd, fs, rfl, e', rfl, [x], ad1, mu1, .cons dx .nil, t1, ?_⟩
      cases hF : F [x] mu1 with
      | stuck => rw [hF] at o1; exact o1.elim
      | exc C' ks' ds' m2 => rw [hF] at o1; exact o1.elim
      | ok y m2 =>
        rw [hF] at o1
        intro w H2 ad2 ch2 t2 dy
        cases y with
        | cel _ => exact o1.elim
        | scr _ => exact o1.elim
        | exn _ _ => exact o1.elim
        | d y =>
          cases y with
          | int n =>
            simp only at o1
            split at o1
            · rename_i hn
              exact ⟨n, int_of dy, hn, o1 _ H2 ad2 ch2 t2 (.d (.int n))⟩
            · exact o1.elim
          | non => exact o1.elim
          | bl _ => exact o1.elim
          | str _ => exact o1.elim
          | tup _ => exact o1.elim
          | lst _ => exact o1.elim
          | ins _ _ _ => exact o1.elim
    · exact o1.elim
/-- a == b, a an instance of C with its own method, b another or a tuple -/
def mEqOwn (C : Str) (F : List Ar → Mu → R Ar) (a b : ME) : ME := fun g mu => (a g mu).bd fun x m => (b g m).bd fun y m1 => match insOf C m1 x, y with
  | some _, .d (.tup _) => (match F [x, y] m1 with
    | .ok (.d (.bl r)) m2 => .ok (.d (.bl r)) m2
    | _ => .stuck)
  | some _, .d (.ins C' _ _) => if C' = C then (match F [x, y] m1 with
    | .ok (.d (.bl r)) m2 => .ok (.d (.bl r)) m2
    | _ => .stuck) else .stuck
  | _, _ => .stuck
theorem opr_eqO {k : Nat} {C f : Addr} {fd : FuncData} {ps : List Str} {sp : Sp} (hs : PySem.W.findIn X.K (.ref C) "__eq__" = some (some (.ref f))) (hf : PySem.W.isFn X.K (.ref f) = true) (ht : PySem.W.subIn X.K (.type "tuple") (.ref C) = some false) (G : FnOk X.prog X.w X.K X.mg X.base (L2.CX X.prog X.w) k f fd ps sp) (hr : Room k X.A) (hb : Binds X.K fd ps []) :
    OpR X (compareOp .Eq) (fun x y H Q => ∃ a b dx fs, x = .ref a ∧ y = .ref b ∧ H a = some (.ins C dx fs) ∧ ((∃ us, SqT X.K H b us) ∨ ∃ dy gs, H b = some (.ins C dy gs)) ∧ sp [.ref a, .ref b] H (fun v H2 => ∃ r, v = .bl r ∧ Q (.bl r) H2) fun _ _ _ => False) := by
  intro pins s σ H x y v u Q I rx ry h
  obtain ⟨a, b, dx, fs, rfl, rfl, ha, hbb, q⟩ := h
  cases (show v = Value.ref a from rx)
  cases (show u = Value.ref b from ry)
  obtain ⟨od, J⟩ := ins_at I ha
  obtain ⟨m, hF⟩ := I.fr
  have hl : ([Value.ref a, Value.ref b] ++ ([] : List Value)).length = ps.length := by
    rw [← G.len _ _ _ _ q]
    rfl
  have lk : ∃ tb, PySem.W.Looks (model X.prog X.w) s.heap (typeOf (.ref b)) tb ∧ PySem.W.notFirst X.K C tb = true := by
    rcases hbb with ⟨us, hu⟩ | ⟨dy, gs, hu⟩
    · obtain ⟨its, rv, ⟨o, ho, hc, _⟩, _⟩ := I.tuple hu
      refine ⟨.type "tuple", fun A Q E s k q => wpAny_typeOf_ref (k _ _ ho) (by rw [hc]; exact q), ?_⟩
      unfold PySem.W.notFirst
      rw [ht]
      simp
    · obtain ⟨od2, J2⟩ := ins_at I hu
      refine ⟨.ref C, J2.type, ?_⟩
      unfold PySem.W.notFirst
      simp
  obtain ⟨tb, l1, l2⟩ := lk
  refine PySem.W.cmp_K (op := .Eq) (tb := tb) hr.units0 hF I.ok.mod.kin J l1 l2 hs hf ?_
  refine wpAny_call (codeAny_mono (G.run X.A X.stack s H ⟨[.ref a, .ref b], []⟩ [.ref a, .ref b] [.ref a, .ref b] _ _ hr I.env0 (hb s [.ref a, .ref b] I.kIn hl) (.cons rfl (.cons rfl .nil)) q) fun r3 s' hq => ?_)
  cases r3 with
  | error u => exact (passL (X := X)) pins σ H s u s' I hq
  | ok fl =>
    cases fl with
    | ret u =>
      obtain ⟨v, H', I3, rv, r, ev, q3⟩ := I.after hq
      subst ev
      cases (show u = Value.bool r from rv)
      exact ⟨.bl r, H', I3, rfl, q3⟩
    | next => exact False.elim hq
    | brk => exact False.elim hq
    | cont => exact False.elim hq
theorem eqO_run {C : Str} {Ca : Addr} {F : List Ar → Mu → R Ar} {ma mb : ME} (hmc : c.mg C = some (.ref Ca)) {σ : L2.St} {H : Hp} {Q : VK} (h : lft c W (mEqOwn C F ma mb) σ H Q) :
    tOp (fun x y H Q => ∃ a b dx fs, x = .ref a ∧ y = .ref b ∧ H a = some (.ins Ca dx fs) ∧ ((∃ us, SqT c.K H b us) ∨ ∃ dy gs, H b = some (.ins Ca dy gs)) ∧ spOf c 2 F [.ref a, .ref b] H (fun v H2 => ∃ r, v = .bl r ∧ Q (.bl r) H2) fun _ _ _ => False) (lft c W ma) (lft c W mb) σ H Q := by
  obtain ⟨g, ad, mu, hS, hT, o⟩ := h
  refine ⟨g, ad, mu, hS, hT, OutG.imp (OutG.bd (rel := An c) o) fun v H1 ⟨ad1, mu1, x, ch1, t1, dx, o1⟩ => ?_⟩
  refine ⟨g, ad1, mu1, hS.ch ch1, t1, OutG.imp (OutG.bd (rel := An c) o1) fun w H2 ⟨ad2, mu2, y, ch2, t2, dy, o2⟩ => ?_⟩
  have dx2 := dx.ch ch2
  have fin : ∀ a b, v = .ref a → w = .ref b → OutG c W σ H2 ad2 (An c) (match F [x, y] mu2 with
      | .ok (.d (.bl r)) m2 => .ok (.d (.bl r)) m2
      | _ => .stuck) Q → spOf c 2 F [.ref a, .ref b] H2 (fun v H2 => ∃ r, v = .bl r ∧ Q (.bl r) H2) fun _ _ _ => False := by
    intro a b e1 e2 o3
    subst e1 e2
    refine ⟨rfl, [x, y], ad2, mu2, .cons dx2 (.cons dy .nil), t2, ?_⟩
    cases hF : F [x, y] mu2 with
    | stuck => rw [hF] at o3; exact o3.elim
    | exc C' ks' ds' m2 => rw [hF] at o3; exact o3.elim
    | ok z m3 =>
      rw [hF] at o3
      intro u H3 ad3 ch3 t3 dz
      cases z with
      | cel _ => exact o3.elim
      | scr _ => exact o3.elim
      | exn _ _ => exact o3.elim
      | d z =>
        cases z with
        | bl r => exact ⟨r, bl_of dz, o3 _ H3 ad3 ch3 t3 (.d (.bl r))⟩
        | non => exact o3.elim
        | int _ => exact o3.elim
        | str _ => exact o3.elim
        | tup _ => exact o3.elim
        | lst _ => exact o3.elim
        | ins _ _ _ => exact o3.elim
  split at o2
  · rename_i ksd ds hi
    obtain ⟨ks, fds⟩ := ksd
    obtain ⟨q, Ca', dd, fs, rfl, m', e', k', t'⟩ := insOf_ok t2 dx2 hi
    have : Ca' = Ca := by rw [hmc] at m'; cases m'; rfl
    subst this
    obtain ⟨p, us, rfl, hp, tp⟩ := tup_of dy
    exact ⟨q, p, dd, fs, rfl, rfl, e', .inl ⟨us, hp⟩, fin q p rfl rfl o2⟩
  · rename_i ksd C' ks2 ds2 hi
    split at o2
    · rename_i hCC
      subst hCC
      obtain ⟨ks, fds⟩ := ksd
      obtain ⟨q, Ca', dd, fs, rfl, m', e', k', t'⟩ := insOf_ok t2 dx2 hi
      have : Ca' = Ca := by rw [hmc] at m'; cases m'; rfl
      subst this
      cases d_of dy with
      | @ins b Cb db gs _ _ _ nb mb eb kb tb =>
        have : Cb = Ca' := by rw [hmc] at mb; cases mb; rfl
        subst this
        exact ⟨q, b, dd, fs, rfl, rfl, e', .inr ⟨db, gs, eb⟩, fin q b rfl rfl o2⟩
    · exact o2.elim
  · exact o2.elim
theorem de_eqO {k : Nat} {C : Str} {Ca f : Addr} {fd : FuncData} {ps : List Str} {F : List Ar → Mu → R Ar} {a b : Expr} {ma mb : ME} {pos : Pos} (hmc : c.mg C = some (.ref Ca)) (hK : X.K = c.K) (hs : PySem.W.findIn X.K (.ref Ca) "__eq__" = some (some (.ref f))) (hf : PySem.W.isFn X.K (.ref f) = true) (ht : PySem.W.subIn X.K (.type "tuple") (.ref Ca) = some false) (G : FnOk X.prog X.w X.K X.mg X.base (L2.CX X.prog X.w) k f fd ps (spOf c 2 F)) (hr : Room k X.A) (hb : Binds X.K fd ps [])
    (ha : PE X a (lft c W ma)) (hbb : PE X b (lft c W mb)) : PE X (.Compare a [.Eq] [b] pos) (lft c W (mEqOwn C F ma mb)) :=
  (pe_cmpR (opr_eqO hs hf ht G hr hb) ha hbb (nomark _)).weak fun σ H Q h => by
    rw [hK]
    exact eqO_run hmc h
theorem dt_eqO {k : Nat} {C : Str} {Ca f : Addr} {fd : FuncData} {ps : List Str} {F : List Ar → Mu → R Ar} {a b : Expr} {ma mb : ME} {pos : Pos} (hmc : c.mg C = some (.ref Ca)) (hK : X.K = c.K) (hs : PySem.W.findIn X.K (.ref Ca) "__eq__" = some (some (.ref f))) (hf : PySem.W.isFn X.K (.ref f) = true) (ht : PySem.W.subIn X.K (.type "tuple") (.ref Ca) = some false) (G : FnOk X.prog X.w X.K X.mg X.base (L2.CX X.prog X.w) k f fd ps (spOf c 2 F)) (hr : Room k X.A) (hb : Binds X.K fd ps [])
    (ha : PE X a (lft c W ma)) (hbb : PE X b (lft c W mb)) : PT X (.Compare a [.Eq] [b] pos) (lftT c W (mB (mEqOwn C F ma mb))) :=
  (pt_cmpR (opr_eqO hs hf ht G hr hb) ha hbb (nomark _)).weak fun σ H Q q => by
    rw [hK]
    exact eqO_run hmc (tB_run q)
end
end Dw
namespace Dw
open PySem PySem.Spec PyProof.Rows L2
theorem tup_mul1 (l : Addr) (items : Array Value) (n : Nat) (dd : Option Addr) (sl : Array (Option Value)) (x : Int) (u : Tok) (c0 : (decide (x < -(2 ^ 63)) || decide (x ≥ 2 ^ 63)) = false) (c1 : (items.isEmpty || x == 1) = true) :
    Meets (Builtin.«tuple.__mul__» ⟨[.ref l, .int x u], []⟩) (fun _ R s => s.heap.get? l = some { cls := .type "tuple", dict := dd, data := .seq items n, slots := sl } ∧ R (.ok (.ret (Value.ref l))) s) :=
  .of_wp fun prog w A R s h => by
    obtain ⟨hp, g, d, tk, os⟩ := s
    obtain ⟨hl, h⟩ := h
    have f1 := AutoSeq1.idx_int
    wp_walk using wpAny_loadPart' hl
    repeat (first
      | (refine wpAny_ite_false (decide_eq_false (by rw [c0]; exact Bool.false_ne_true)) ?_; wp_walk using wpAny_loadPart' hl)
      | (refine wpAny_ite_true (decide_eq_true (by rw [c1])) ?_; wp_walk using wpAny_loadPart' hl))
    exact ⟨_, rfl, h⟩
section
variable {X : Cx} {c : Ct} {W : WX}
/-- t * 1, () * k: the same tuple -/
def rRep1 (K : PySem.W.Frag) : R2 := fun x y H Q => ∃ l k xs, x = .ref l ∧ y = .int k ∧ SqT K H l xs ∧ (xs = [] ∨ k = 1) ∧ -(2 ^ 63) ≤ k ∧ k < 2 ^ 63 ∧ Q (.ref l) H
theorem op_rep1 : OpR X (binaryOp .Mult) (rRep1 X.K) := by
  intro pins s σ H x y v u Q I rx ry h
  obtain ⟨l, k, xs, rfl, rfl, hT, hk, h1, h2, q⟩ := h
  cases (show v = Value.ref l from rx)
  obtain ⟨t, e⟩ := (show ∃ t, u = Value.int k t from ry)
  cases e
  obtain ⟨its, r, ⟨⟨cls, dd, data, sl⟩, ho, hc, n, hd⟩, hs⟩ := I.tuple hT
  simp only at hc hd
  subst hc hd
  have c0 : (decide (k < -(2 ^ 63)) || decide (k ≥ 2 ^ 63)) = false := by
    rw [decide_eq_false (by omega), decide_eq_false (by omega)] <;> rfl
  have c1 : (its.toArray.isEmpty || k == 1) = true := by
    rcases hk with rfl | rfl
    · cases r
      rfl
    · simp
  refine wpAny_binaryOp_repeat_ref (T := "tuple") (U := "int") (by decide) ⟨_, ho, rfl⟩ (fun s' => typeIs_int s' k t) noFill_tuple_mul F.fills_int_mul F.slot_int_rmul repeat_tuple F.slot_int_index.lookup
    (call_meets F.slot_int_rmul (typeIs_int s k t) F.entry_int_rmul (F.args_int_rmul_2 _ _) (int_rmul_tuple k t l its.toArray n dd sl)
      ⟨ho, rfl, ⟨_, ho, rfl⟩, call_meets F.slot_tuple_mul ⟨_, ho, rfl⟩ F.entry_tuple_mul (F.args_tuple_mul_2 _ _) (tup_mul1 l its.toArray n dd sl k t c0 c1) ⟨ho, ?_⟩⟩)
  exact ⟨.ref l, H, I, rfl, q⟩
def rMulA (K : PySem.W.Frag) : R2 := fun x y H Q => (rI CMul fun i j => .int (i * j)) x y H Q ∨ (rRep1 K x y H Q ∨ (rRepT K x y H Q ∨ rRep x y H Q))
theorem op_mulA : OpR X (binaryOp .Mult) (rMulA X.K) := op_mul.or (op_rep1.or (op_repT.or op_rep))
def fMulA : Mu → Ar → Ar → Option D := fun _ x y => match x, y with
  | .d (.int i), .d (.int j) => if CMul i j then some (.int (i * j)) else none
  | .d (.tup xs), .d (.int k) => if xs.length = 0 ∨ k = 1 then (if -(2 ^ 63) ≤ k ∧ k < 2 ^ 63 then some (.tup xs) else none) else if 2 ≤ k ∧ k ≤ 1000 ∧ xs.length ≤ 1000 then some (.tup (List.replicate k.toNat xs).flatten) else none
  | .d (.lst xs), .d (.int k) => if -(2 ^ 63) ≤ k ∧ k < 2 ^ 63 ∧ xs.length * k.toNat ≤ 16777216 then some (.lst (List.replicate k.toNat xs).flatten) else none
  | _, _ => none
theorem od_mulA : OpD c (rMulA c.K) fMulA := fun H ad mu v w x y z s a b h Q q => by
  unfold fMulA at h
  split at h
  · split at h
    · rename_i hc
      cases h
      rw [int_of a, int_of b]
      exact .inl ⟨_, _, rfl, rfl, hc, q _ H (.refl _) (.int _)⟩
    · cases h
  · rename_i xs k
    obtain ⟨p, us, rfl, hp, tp⟩ := tup_of a
    rw [int_of b]
    split at h
    · rename_i hc
      split at h
      · rename_i hk
        cases h
        refine .inr (.inl ⟨p, k, us, rfl, rfl, hp, ?_, hk.1, hk.2, q _ H (.refl _) (d_of a)⟩)
        rcases hc with e | e
        · exact .inl (List.eq_nil_of_length_eq_zero (tp.length.trans e))
        · exact .inr e
      · cases h
    · rename_i hc
      split at h
      · rename_i hk
        cases h
        refine .inr (.inr (.inl ⟨p, k, us, rfl, rfl, hp, fun e => ?_, hk.1, hk.2.1, by rw [tp.length]; exact hk.2.2, fun r hr => q _ _ (.new hr) (new_tup s hr (tp.rep _))⟩))
        subst e
        cases tp
        exact hc (.inl rfl)
      · cases h
  · split at h
    · rename_i xs k hk
      cases h
      obtain ⟨p, us, rfl, _, hp, _, tp⟩ := lst_of2 a
      rw [int_of b]
      exact .inr (.inr (.inr ⟨p, k, us, rfl, rfl, hp, hk.1, hk.2.1, by rw [tp.length, line]; exact hk.2.2, fun r hr => q _ _ (.new hr) (new_lst s hr (tp.rep _))⟩))
    · cases h
  · cases h
end
end Dw
namespace Dw
open PySem PySem.Spec PyProof.Rows L2
section
variable {X : Cx} {c : Ct} {W : WX}
theorem suite_of {cls : Value} {Ca : Addr} {sts : List Stmt} {t : TS} (h : cls = .ref Ca → PSs X sts t) : PSs X sts (fun D σ H => cls = .ref Ca ∧ t D σ H) := ⟨fun pins s σ H D I ⟨e, q⟩ => (h e).run pins s σ H D I q⟩
theorem cls_at {C : Str} {cls : Value} {Ca : Addr} (h : ∃ C', C' = C ∧ c.mg C' = some cls) (hm : c.mg C = some (.ref Ca)) : cls = .ref Ca := by
  obtain ⟨C', rfl, e⟩ := h
  rw [hm] at e
  cases e
  rfl
/-! slices of anything -/
theorem SlD.or {r r' : V → Option Int → Option Int → Hp → VK → Prop} {f f' : Mu → Ar → Option Int → Option Int → Option D} (h : SlD c r f) (h' : SlD c r' f') : SlD c (fun x lo hi H Q => r x lo hi H Q ∨ r' x lo hi H Q) (fun mu x lo hi => match f mu x lo hi with
    | some z => some z
    | none => f' mu x lo hi) := fun H ad mu v x lo hi z s a e Q q => by
  cases e1 : f mu x lo hi with
  | some y0 =>
    simp only [e1] at e
    cases e
    exact .inl (h H ad mu v x lo hi _ s a e1 Q q)
  | none =>
    simp only [e1] at e
    exact .inr (h' H ad mu v x lo hi z s a e Q q)
def fSlA : Mu → Ar → Option Int → Option Int → Option D := fun mu x lo hi => match fSl mu x lo hi with
  | some z => some z
  | none => fSlT mu x lo hi
def rSlAny (K : PySem.W.Frag) : V → Option Int → Option Int → Hp → VK → Prop := fun x lo hi H Q => Dw.rSlS K x lo hi H Q ∨ L2.rSlS x lo hi H Q
theorem sd_any : SlD c (rSlAny c.K) fSlA := SlD.or sd_seq sd_txt
theorem sl_any : SlR X (rSlAny X.K) := sl_seq.or sl_str
/-! a flat x in a list or tuple -/
def flatD : D → Bool
  | .non => true
  | .bl _ => true
  | .int _ => true
  | .str _ => true
  | _ => false
theorem flat_ok {H : Hp} {ad : List Addr} {v : V} {x : D} (a : Dn c H ad v x) (h : flatD x = true) : flatV v = true := by
  cases a <;> first | rfl | cases h
theorem eqV_ok {H : Hp} {ad : List Addr} {v w : V} {x y : D} (a : Dn c H ad v x) (b : Dn c H ad w y) (h : flatD x = true) (h' : flatD y = true) : eqV v w = deq x y := by
  cases a <;> first | (cases h; done) | (cases b <;> first | (cases h'; done) | (simp [eqV, deq]))
def inD (x : D) (xs : List D) : Bool := xs.any fun y => deq y x
theorem flats_ok {H : Hp} {ad : List Addr} : ∀ {vs : List V} {ds : List D}, Dns c H ad vs ds → ds.all flatD = true → vs.all flatV = true
  | _, _, .nil, _ => rfl
  | _, _, .cons a t, h => by
    rw [List.all_cons, Bool.and_eq_true] at h
    rw [List.all_cons, flat_ok a h.1, flats_ok t h.2]
    rfl
theorem inV_ok {H : Hp} {ad : List Addr} {v : V} {x : D} (a : Dn c H ad v x) (hx : flatD x = true) : ∀ {vs : List V} {ds : List D}, Dns c H ad vs ds → ds.all flatD = true → inV v vs = inD x ds
  | _, _, .nil, _ => rfl
  | _, _, .cons b t, h => by
    rw [List.all_cons, Bool.and_eq_true] at h
    show ((eqV _ v) || inV v _) = ((deq _ x) || inD x _)
    rw [eqV_ok b a h.1 hx, inV_ok a hx t h.2]
def fIn (neg : Bool) : Mu → Ar → Ar → Option D := fun mu x y => match x, itsD mu y with
  | .d x, some ds => if flatD x = true ∧ ds.all flatD = true then some (.bl (inD x ds != neg)) else none
  | _, _ => none
theorem od_inG {neg : Bool} : OpD c (rIn c.K neg) (fIn neg) := fun H ad mu v w x y z s a b h Q q => by
  unfold fIn at h
  split at h
  · split at h
    · rename_i x1 ds hi hc
      cases h
      obtain ⟨p, us, rfl, hp, tp⟩ := itsD_ok s b hi
      refine ⟨p, us, rfl, hp, flat_ok (d_of a) hc.1, flats_ok tp hc.2, q _ H (.refl _) ?_⟩
      rw [inV_ok (d_of a) hc.1 tp hc.2]
      cases neg with
      | true => rw [Bool.bne_true, if_pos rfl]; exact .bl _
      | false => rw [Bool.bne_false, if_neg (by decide)]; exact .bl _
    · cases h
  · cases h
theorem od_in : OpD c (rIn c.K false) (fIn false) := od_inG
theorem od_notIn : OpD c (rIn c.K true) (fIn true) := od_inG
/-! for over a list that is changed in place, read anew at each turn -/
def forC (n : Nat) (t : MG) (b : MS) : Nat → Nat → Gm → Mu → RS
  | 0, _, _, _ => .stuck
  | f + 1, k, g, m => match m[n]? with
    | some (.lst xs) => (match xs[k]? with
      | none => .nx g m
      | some d => (match t (.d d) g with
        | none => .stuck
        | some g1 => (match b g1 m with
          | .nx g2 m2 => forC n t b f (k + 1) g2 m2
          | .ct g2 m2 => forC n t b f (k + 1) g2 m2
          | .bk g2 m2 => .nx g2 m2
          | .rt x m2 => .rt x m2
          | .exc C ks es g2 m2 => .exc C ks es g2 m2
          | .stuck => .stuck)))
    | _ => .stuck
def mForC (f : Nat) (e : ME) (t : MG) (b : MS) : MS := fun g mu => (e g mu).st g fun x m => match x with
  | .cel n => forC n t b f 0 g m
  | _ => .stuck
theorem forC_run {f : Nat} {me : ME} {t : TG} {mt : MG} {mb : MS} (hd : GD c wAny t mt) {D : Ends} {σ : L2.St} {H : Hp} (h : lftS c W (mForC f me mt mb) D σ H) : tFor (iList c.K (lft c W me)) t (lftS c W mb) D σ H := by
  obtain ⟨g, ad, mu, hS, hT, o⟩ := h
  refine ⟨g, ad, mu, hS, hT, OutG.imp (OutS.bd (rel := An c) hS o) fun v H1 ⟨ad1, mu1, x, ch1, t1, dx, o1⟩ => ?_⟩
  split at o1
  · rename_i n
    obtain ⟨a, rfl, ea⟩ := cel_of dx
    obtain ⟨cl0, hm0, hc0⟩ := t1.cl ea
    have fpos : ∃ xs, mu1[n]? = some (.lst xs) := by
      cases f with
      | zero => exact o1.elim
      | succ f =>
        unfold forC at o1
        split at o1
        · exact ⟨_, by assumption⟩
        · exact o1.elim
    obtain ⟨xs0, hxs0⟩ := fpos
    obtain ⟨p0, us0, e0, _, hp0, tp0⟩ := t1.rd dx hxs0
    cases e0
    refine ⟨a, rfl, ⟨us0, SqL.of hp0⟩, fun i m σ2 H2 => ∃ g2 ad2 mu2, Ch H1 ad1 H2 ad2 ∧ Sl c H2 ad2 σ2 g2 ∧ Sto c H2 ad2 mu2 ∧ ad2[n]? = some a ∧ OutS c W H2 ad2 (forC n mt mb m i g2 mu2) D, ⟨f, g, ad1, mu1, .refl _ _, hS.ch ch1, t1, ea, o1⟩, ?_⟩
    rintro i m σ2 H2 ⟨g2, ad2, mu2, ch2, s2, t2, ea2, o2⟩
    cases m with
    | zero => exact o2.elim
    | succ m =>
      unfold forC at o2
      split at o2
      · rename_i xs hxs
        obtain ⟨p1, us, e1, _, hp1, tp1⟩ := t2.rd (.cel ea2) hxs
        cases e1
        split at o2
        · rename_i hk
          refine .inl ⟨⟨us, SqL.of hp1, ?_⟩, o2 σ2 H2 ad2 (.refl _ _) s2 t2⟩
          rw [tp1.length]
          exact List.getElem?_eq_none_iff.mp hk
        · rename_i d hk
          obtain ⟨u, hu, du⟩ := tp1.get hk
          refine .inr ⟨⟨us, u, SqL.of hp1, hu⟩, fun σ' H' => ∃ g2 ad2 mu2, Ch H1 ad1 H' ad2 ∧ Sl c H' ad2 σ' g2 ∧ Sto c H' ad2 mu2 ∧ ad2[n]? = some a ∧ OutS c W H' ad2 (forC n mt mb m (i + 1) g2 mu2) D, fun σ' H' q => ⟨m, Nat.lt_succ_self _, q⟩, fun y H3 ⟨e3, hy⟩ => ?_⟩
          subst e3
          have := hy us (SqL.of hp1)
          rw [hu] at this
          cases this
          split at o2
          · exact o2.elim
          · rename_i g3 hg3
            refine hd H3 ad2 _ _ σ2 g2 g3 (.d du) s2 hg3 _ fun σ3 s3 _ => ⟨g3, ad2, mu2, s3, t2, ?_⟩
            have keep : ∀ {H' : Hp} {ad' : List Addr}, Ch H3 ad2 H' ad' → ad'[n]? = some a := fun {H' ad'} ch => by
              obtain ⟨tt, rfl, _⟩ := ch.pre
              rw [List.getElem?_append_left (List.getElem?_eq_some_iff.mp ea2).1]
              exact ea2
            cases hb : mb g3 mu2 with
            | nx g4 m4 =>
              simp only [hb] at o2
              exact fun σ' H' ad' a' b d => ⟨g4, ad', m4, ch2.trans a', b, d, keep a', OutS.mv a' o2⟩
            | ct g4 m4 =>
              simp only [hb] at o2
              exact fun σ' H' ad' a' b d => ⟨g4, ad', m4, ch2.trans a', b, d, keep a', OutS.mv a' o2⟩
            | bk g4 m4 =>
              simp only [hb] at o2
              exact fun σ' H' ad' a' b d => o2 σ' H' ad' a' b d
            | rt x m4 =>
              simp only [hb] at o2
              exact fun v H' ad' a' b d => o2 v H' ad' a' b d
            | exc C ks es g4 m4 => simp only [hb] at o2; exact o2
            | stuck => simp only [hb] at o2; exact o2
      · exact o2.elim
  · exact o1.elim
theorem ds_forC {f : Nat} {tg iter : Expr} {body : List Stmt} {me : ME} {t : TG} {mt : MG} {mb : MS} {pos : Pos} (hp : PassesOwn (model X.prog X.w) X.A X.env X.xe) (hc : X.calm = true) (hK : X.K = c.K) (hi : PE X iter (lft c W me)) (hg : PG X tg t) (hd : GD c wAny t mt) (hb : PSs X body (lftS c W mb))
    (hs : ∀ x, foldedSetIterable iter X.env x = pure x := by intro _; rfl) : PS X (.For tg iter body [] pos) (lftS c W (mForC f me mt mb)) :=
  (ps_for hp hc (pi_list hi) hg hb hs).weak fun D σ H h => by
    rw [hK]
    exact forC_run hd h
end
/-- a def of which nothing is asked -/
theorem fn_stuck {P : Program} {w : World} {K : PySem.W.Frag} {mg : Str → Option Value} {base : Heap} {c : Ct} {k : Nat} {f : Addr} {fd : FuncData} {ps : List Str} {n : Nat} : FnOk P w K mg base (L2.CX P w) k f fd ps (spOf c n fun _ _ => .stuck) :=
  ⟨fun vs H Q E ⟨_, _, _, _, _, _, o⟩ => o.elim, fun A outer s H args us vs Q E _ _ _ _ ⟨_, _, _, _, _, _, o⟩ => o.elim⟩
/-- a comprehension within a comprehension's block -/
theorem blkOk_in {N : List Str} {sc S scope : Scope} {own : List (Str × Nat)} {cl : List (Str × Addr)} {C : Addr} {env : Env} (he : env.scope = sc) (h : blkC N (relS S sc) scope own = true) : BlkOk N (compEnvC S cl C env).scope scope own := by
  have e : (compEnvC S cl C env).scope = relS S sc := by
    subst he
    rfl
  rw [e]
  exact blkOk_by h
end Dw
/-! operators whose fresh list is a cell -/
namespace Dw
open PySem PySem.Spec PyProof.Rows L2
section
variable {X : Cx} {c : Ct} {W : WX}
def mBinC (f : Mu → Ar → Ar → Option (List D)) (a b : ME) : ME := fun g mu => (a g mu).bd fun x mu1 => (b g mu1).bd fun y mu2 => match f mu2 x y with
  | some zs => .ok (.cel mu2.length) (mu2 ++ [.lst zs])
  | none => .stuck
@[simp] theorem mBinC_ap (f : Mu → Ar → Ar → Option (List D)) (a b : ME) (g : Gm) (mu : Mu) : mBinC f a b g mu = (a g mu).bd fun x mu1 => (b g mu1).bd fun y mu2 => match f mu2 x y with
  | some zs => .ok (.cel mu2.length) (mu2 ++ [.lst zs])
  | none => .stuck := rfl
def OpC (c : Ct) (r : R2) (f : Mu → Ar → Ar → Option (List D)) : Prop :=
  ∀ (H : Hp) (ad : List Addr) (mu : Mu) (v w : V) (x y : Ar) (zs : List D), Sto c H ad mu → An c H ad v x → An c H ad w y → f mu x y = some zs → ∀ Q : VK, (∀ p vs, H p = none → Dns c H ad vs zs → Q (.ref p) (upd H p (.lst vs))) → r v w H Q
theorem de_binC {op : Operator} {r : R2} {f : Mu → Ar → Ar → Option (List D)} {a b : Expr} {ma mb : ME} {pos : Pos} (ho : OpR X (binaryOp op) r) (hf : OpC c r f) (ha : PE X a (lft c W ma)) (hb : PE X b (lft c W mb)) : PE X (.BinOp a op b pos) (lft c W (mBinC f ma mb)) :=
  (pe_op ho ha hb).weak fun σ H Q h => by
    obtain ⟨g, ad, mu, hS, hT, o⟩ := h
    refine ⟨g, ad, mu, hS, hT, OutG.imp (OutG.bd (rel := An c) o) fun v H1 ⟨ad1, mu1, x, ch1, t1, dx, o1⟩ => ?_⟩
    refine ⟨g, ad1, mu1, hS.ch ch1, t1, OutG.imp (OutG.bd (rel := An c) o1) fun w H2 ⟨ad2, mu2, y, ch2, t2, dy, o2⟩ => ?_⟩
    cases hz : f mu2 x y with
    | none => rw [hz] at o2; exact o2.elim
    | some z =>
      rw [hz] at o2
      exact hf H2 ad2 mu2 v w x y z t2 (dx.ch ch2) dy hz Q fun p vs hp t => o2 _ _ (ad2 ++ [p]) (.new hp) (new_cell t2 hp t).1 (new_cell t2 hp t).2
def fCatC : Mu → Ar → Ar → Option (List D) := fun mu x y => match lstD mu x, lstD mu y with
  | some xs, some ys => if xs.length + ys.length ≤ 16777216 then some (xs ++ ys) else none
  | _, _ => none
theorem oc_cat : OpC c rCat fCatC := fun H ad mu v w x y zs s a b h Q q => by
  unfold fCatC at h
  split at h
  · rename_i xs ys e1 e2
    split at h
    · rename_i hl
      cases h
      obtain ⟨p, us, rfl, hp, tp⟩ := lstD_ok s a e1
      obtain ⟨p2, us2, rfl, hp2, tp2⟩ := lstD_ok s b e2
      exact ⟨p, p2, us, us2, rfl, rfl, hp, hp2, by rw [tp.length, tp2.length, line]; exact hl, fun r hr => q r _ hr (tp.append tp2)⟩
    · cases h
  · cases h
def fRepC : Mu → Ar → Ar → Option (List D) := fun mu x y => match lstD mu x, y with
  | some xs, .d (.int k) => if -(2 ^ 63) ≤ k ∧ k < 2 ^ 63 ∧ xs.length * k.toNat ≤ 16777216 then some (List.replicate k.toNat xs).flatten else none
  | _, _ => none
theorem oc_rep : OpC c rRep fRepC := fun H ad mu v w x y zs s a b h Q q => by
  unfold fRepC at h
  split at h
  · rename_i xs k e1
    split at h
    · rename_i hk
      cases h
      obtain ⟨p, us, rfl, hp, tp⟩ := lstD_ok s a e1
      rw [int_of b]
      exact ⟨p, k, us, rfl, rfl, hp, hk.1, hk.2.1, by rw [tp.length, line]; exact hk.2.2, fun r hr => q r _ hr (tp.rep _)⟩
    · cases h
  · cases h
end
end Dw
namespace Dw
open PySem PySem.Spec PyProof.Rows L2
theorem kit_self {K : PySem.W.Frag} {t : Value} : PySem.W.kitOne K t t = some true := by
  unfold PySem.W.kitOne
  rw [if_pos (by simp)]
theorem kit_own {K : PySem.W.Frag} {C : Addr} {T : String} {b : Bool} (h1 : PySem.W.isClsIn K C = true) (h2 : PySem.W.typeIn K (.ref C) = some (.type "type")) (h3 : PySem.W.subIn K (.type T) (.ref C) = some b) : PySem.W.kitOne K (.type T) (.ref C) = some b := by
  unfold PySem.W.kitOne
  rw [if_neg (by simp)]
  have h1' : (PySem.W.clsIn K C).isSome = true := h1
  show (if ((PySem.W.clsIn K C).isSome && PySem.W.typeIn K (.ref C) == some (.type "type")) = true then PySem.W.subIn K (.type T) (.ref C) else none) = some b
  rw [h1', h2, if_pos (by simp)]
  exact h3
theorem kit_no {K : PySem.W.Frag} {C : Addr} {T : String} {b : Bool} (h1 : PySem.W.kitMeta T = true) (h3 : PySem.W.subIn K (.ref C) (.type T) = some b) : PySem.W.kitOne K (.ref C) (.type T) = some b := by
  unfold PySem.W.kitOne
  rw [if_neg (by simp)]
  show (if PySem.W.kitMeta T = true then PySem.W.subIn K (.ref C) (.type T) else none) = some b
  rw [if_pos h1]
  exact h3
/-- the script as a law gets it -/
theorem script_an {K : PySem.W.Frag} {mg : Str → Option Value} {H : Hp} {a : Addr} {ns : List Int} (hS : SqL K H a (ns.map V.int)) : An ⟨K, mg, none⟩ H [] (.ref a) (.scr ns) := by
  rcases hS with h | h
  · refine .scr (by simp) (.inl h) fun e => ?_
    rcases h with h | ⟨o, h⟩
    · rw [e] at h; cases h
    · rw [e] at h; cases h
  · exact .kscr fun H' => .inr h
/-- the law's end from its mirror -/
theorem walk_law {l : PySem.W.OpenLaw} {q : Program} {loose : List Str} {XP : (Str → Option Value) → Heap → Prop} {YP : World → Heap → Prop} {d : DefRec} {K : Params → PySem.W.Frag} {k : Nat} {M : List Ar → Mu → R Ar} (hn : l.most = some 63) (hdf : d.params.defaults = [])
    (hY : ∀ (w : World) (h : Heap), YP w h → (K w.params).In h)
    (F : ∀ (w : World) (mg : Str → Option Value) (fa : Addr) (h : Heap), (K w.params).In h → h.Ns mainGlobals mg → mg d.name = some (.ref fa) →
      ∃ fd : FuncData, (∀ (s : Shared) (u : Value), BindsTo s fd ⟨[u], []⟩ [("script", u)]) ∧ ∀ base : Heap, (K w.params).In base → base.Ns mainGlobals mg → FnOk l.prog w (K w.params) mg base (L2.CX l.prog w) k fa fd ["script"] (spOf ⟨K w.params, mg, none⟩ 1 M))
    (hM : ∀ ns : List Int, ns.length ≤ 63 → ∃ m, M [.scr ns] [] = .ok (.d (.bl true)) m) (hr : Room k callerA) :
    PySem.W.WalkO q loose XP YP l.row.toRowW d [] (fun f vs => PySem.call f vs) := by
  refine Att.attach_call hn hdf fun w s₀ s₁ mg mb fa o pm cd doc a vs ns G Y ho hd hcd hmg hobj hints hlen hg => ?_
  have KX := hY w _ Y
  obtain ⟨fd, hb, hF⟩ := F w mg fa _ KX G.T.g hmg
  refine law_call KX G.T.g G.T.b G.T.builtins G.T.nolimit hg hobj hints (Nat.le_trans hlen (by decide)) hr hF hb (fun H hO hS => ?_) fun H e s' h => ?_
  · obtain ⟨m, hm⟩ := hM ns hlen
    refine ⟨rfl, [.scr ns], [], [], .cons (script_an hS) .nil, ⟨List.nodup_nil, rfl, fun i a cl h => by simp at h⟩, ?_⟩
    rw [hm]
    intro v H' ad' ch t av
    exact bl_of av
  · obtain ⟨_, _, _, _, _, _, _, _, _, _, _, _, w⟩ := h
    exact w
end Dw
namespace Dw
open PySem PySem.Spec PyProof.Rows L2
inductive Fa2 {α β : Type} (R : α → β → Prop) : List α → List β → Prop
  | nil : Fa2 R [] []
  | cons {a : α} {b : β} {as : List α} {bs : List β} : R a b → Fa2 R as bs → Fa2 R (a :: as) (b :: bs)
theorem Fa2.length {α β : Type} {R : α → β → Prop} : ∀ {as : List α} {bs : List β}, Fa2 R as bs → as.length = bs.length
  | _, _, .nil => rfl
  | _, _, .cons _ t => congrArg (· + 1) (Fa2.length t)
theorem Fa2.all {α β : Type} {R : α → β → Prop} {P : β → Prop} (h : ∀ a b, R a b → P b) : ∀ {as : List α} {bs : List β}, Fa2 R as bs → ∀ b ∈ bs, P b
  | _, _, .nil, _, hb => by cases hb
  | _, _, .cons r t, b, hb => by
    cases hb with
    | head => exact h _ _ r
    | tail _ hb => exact Fa2.all h t b hb
/-! ### a mirror at an input: what simp needs -/
def RS.sq (r : RS) (k : MS) : RS := match r with
  | .nx g m => k g m
  | .rt x m => .rt x m
  | .bk g m => .bk g m
  | .ct g m => .ct g m
  | .exc C ks ds g m => .exc C ks ds g m
  | .stuck => .stuck
def RS.fn (n : Nat) (r : RS) : R Ar := match r with
  | .nx _ m' => popR n (.d .non) m'
  | .rt a m' => popR n a m'
  | .exc C ks ds _ m' => .exc C ks ds (m'.take n)
  | _ => .stuck
section
variable {α β : Type} (a : α) (m mu : Mu) (g : Gm) (C : Str) (ks : List Str) (ds : List D)
@[simp] theorem bd_ok (k : α → Mu → R β) : (R.ok a m).bd k = k a m := rfl
@[simp] theorem bd_exc (k : α → Mu → R β) : (R.exc C ks ds m : R α).bd k = .exc C ks ds m := rfl
@[simp] theorem bd_stuck (k : α → Mu → R β) : (R.stuck : R α).bd k = .stuck := rfl
@[simp] theorem st_ok (k : α → Mu → RS) : (R.ok a m).st g k = k a m := rfl
@[simp] theorem st_exc (k : α → Mu → RS) : (R.exc C ks ds m : R α).st g k = .exc C ks ds g m := rfl
@[simp] theorem st_stuck (k : α → Mu → RS) : (R.stuck : R α).st g k = .stuck := rfl
@[simp] theorem sq_nx (k : MS) : (RS.nx g m).sq k = k g m := rfl
@[simp] theorem sq_rt (x : Ar) (k : MS) : (RS.rt x m).sq k = .rt x m := rfl
@[simp] theorem sq_bk (k : MS) : (RS.bk g m).sq k = .bk g m := rfl
@[simp] theorem sq_ct (k : MS) : (RS.ct g m).sq k = .ct g m := rfl
@[simp] theorem sq_exc (k : MS) : (RS.exc C ks ds g m).sq k = .exc C ks ds g m := rfl
@[simp] theorem fn_nx (n : Nat) : (RS.nx g m).fn n = .ok (.d .non) (m.take n) := rfl
@[simp] theorem fn_rtd (n : Nat) (x : D) : (RS.rt (.d x) m).fn n = .ok (.d x) (m.take n) := rfl
@[simp] theorem fn_rtc (n i : Nat) : (RS.rt (.cel i) m).fn n = if i < n then .ok (.cel i) (m.take n) else (match m[i]? with
    | some cl => .ok (.cel n) (m.take n ++ [cl])
    | none => .stuck) := rfl
@[simp] theorem fn_exc (n : Nat) : (RS.exc C ks ds g m).fn n = .exc C ks ds (m.take n) := rfl
end
section
variable (g : Gm) (mu : Mu) (e a b : ME) (f : Mu → Ar → Ar → Option D) (t u : MT)
theorem fnM_ap (N : Nat) (m : MS) (xs : List Ar) : fnM N m xs mu = (m (xs.map some ++ List.replicate (N - xs.length) none) mu).fn mu.length := by
  unfold fnM RS.fn
  split <;> simp_all
@[simp] theorem mVar_ap (i : Nat) : mVar i g mu = match g[i]? with
  | some (some x) => .ok x mu
  | _ => .stuck := rfl
@[simp] theorem mC_ap (x : D) : mC x g mu = .ok (.d x) mu := rfl
@[simp] theorem mBin_ap : mBin f a b g mu = (a g mu).bd fun x mu1 => (b g mu1).bd fun y mu2 => match f mu2 x y with
  | some z => .ok (.d z) mu2
  | none => .stuck := rfl
@[simp] theorem mUn_ap (f : Mu → Ar → Option D) : mUn f a g mu = (a g mu).bd fun x mu1 => match f mu1 x with
  | some z => .ok (.d z) mu1
  | none => .stuck := rfl
@[simp] theorem mChain_ap (f f' : Mu → Ar → Ar → Option D) (d : ME) : mChain f f' a b d g mu = (a g mu).bd fun x mu1 => (b g mu1).bd fun y mu2 => match f mu2 x y with
  | some (.bl true) => (d g mu2).bd fun z mu3 => (match f' mu3 y z with
    | some u => .ok (.d u) mu3
    | none => .stuck)
  | some (.bl false) => .ok (.d (.bl false)) mu2
  | _ => .stuck := rfl
@[simp] theorem mNil_ap : mNil g mu = .ok [] mu := rfl
@[simp] theorem mCons_ap (r : MA) : mCons a r g mu = (a g mu).bd fun x mu1 => (r g mu1).bd fun xs mu2 => .ok (x :: xs) mu2 := rfl
@[simp] theorem mTup_ap (a : MA) : mTup a g mu = (a g mu).bd fun xs mu1 => match asD xs with
  | some ds => if ds.length ≤ 16777216 then .ok (.d (.tup ds)) mu1 else .stuck
  | none => .stuck := rfl
@[simp] theorem mLst_ap (a : MA) : mLst a g mu = (a g mu).bd fun xs mu1 => match asD xs with
  | some ds => if ds.length ≤ 16777216 then .ok (.d (.lst ds)) mu1 else .stuck
  | none => .stuck := rfl
@[simp] theorem mLstC_ap (a : MA) : mLstC a g mu = (a g mu).bd fun xs mu1 => match asD xs with
  | some ds => if ds.length ≤ 16777216 then .ok (.cel mu1.length) (mu1 ++ [.lst ds]) else .stuck
  | none => .stuck := rfl
@[simp] theorem mB_ap : mB e g mu = (e g mu).bd fun x mu1 => match x with
  | .d (.bl b) => .ok b mu1
  | _ => .stuck := rfl
@[simp] theorem mAnd_ap : mAnd t u g mu = (t g mu).bd fun x mu1 => if x then u g mu1 else .ok false mu1 := rfl
@[simp] theorem mOr_ap : mOr t u g mu = (t g mu).bd fun x mu1 => if x then .ok true mu1 else u g mu1 := rfl
@[simp] theorem mNot_ap : mNot t g mu = (t g mu).bd fun x mu1 => .ok (!x) mu1 := rfl
@[simp] theorem mV_ap : mV t g mu = (t g mu).bd fun x mu1 => .ok (.d (.bl x)) mu1 := rfl
@[simp] theorem mAndV_ap : mAndV a b g mu = (a g mu).bd fun x mu1 => match x with
  | .d (.bl true) => b g mu1
  | .d (.bl false) => .ok (.d (.bl false)) mu1
  | _ => .stuck := rfl
@[simp] theorem mOrV_ap : mOrV a b g mu = (a g mu).bd fun x mu1 => match x with
  | .d (.bl false) => b g mu1
  | .d (.bl true) => .ok (.d (.bl true)) mu1
  | _ => .stuck := rfl
@[simp] theorem mNotV_ap : mNotV a g mu = (a g mu).bd fun x mu1 => match x with
  | .d (.bl b) => .ok (.d (.bl (!b))) mu1
  | _ => .stuck := rfl
@[simp] theorem mIf_ap : mIf t a b g mu = (t g mu).bd fun x mu1 => if x then a g mu1 else b g mu1 := rfl
@[simp] theorem mCB_ap (f : Mu → List Ar → Option D) (a : MA) : mCB f a g mu = (a g mu).bd fun xs mu1 => match f mu1 xs with
  | some z => .ok (.d z) mu1
  | none => .stuck := rfl
@[simp] theorem mCall_ap (n : Nat) (f : List Ar → Mu → R Ar) (a : MA) : mCall n f a g mu = (a g mu).bd fun xs mu1 => if xs.length = n then f xs mu1 else .stuck := rfl
@[simp] theorem mIsi_ap (kc : List Str) (T : String) : mIsi kc T e g mu = (e g mu).bd fun x m => match isTyA kc T m x with
  | some b => .ok (.d (.bl b)) m
  | none => .stuck := rfl
@[simp] theorem mIsiC_ap (C : Str) : mIsiC C e g mu = (e g mu).bd fun x m => match x with
  | .d x => (match isCl C x with
    | some b => .ok (.d (.bl b)) m
    | none => .stuck)
  | _ => .stuck := rfl
@[simp] theorem mFld_ap (C f : Str) : mFld C f e g mu = (e g mu).bd fun x m => match insOf C m x with
  | some (ks, ds) => (match lkF ks ds f with
    | some d => .ok (.d d) m
    | none => .stuck)
  | none => .stuck := rfl
@[simp] theorem mXf_ap (f : Str) : mXf f e g mu = (e g mu).bd fun x m => match x with
  | .exn ks ds => (match lkF ks ds f with
    | some d => .ok (.d d) m
    | none => .stuck)
  | _ => .stuck := rfl
@[simp] theorem mMake_ap (C : Str) (n : Nat) (F : List Ar → Mu → R Ar) (a : MA) : mMake C n F a g mu = (a g mu).bd fun xs m => if xs.length = n then (match F (.cel m.length :: xs) (m ++ [.ins C [] []]) with
  | .ok (.d .non) m' => (match m'[m.length]? with
    | some (.ins C' ks ds) => .ok (.d (.ins C' ks ds)) (m'.take m.length)
    | _ => .stuck)
  | .exc C ks ds m' => .exc C ks ds (m'.take m.length)
  | _ => .stuck) else .stuck := rfl
@[simp] theorem mMeth_ap (C m : Str) (n : Nat) (F : List Ar → Mu → R Ar) (a : MA) : mMeth C m n F e a g mu = (e g mu).bd fun ov m1 => match insOf C m1 ov with
  | some (ks, _) => if inF ks m = false then (a g m1).bd fun xs m2 => (if xs.length = n then F (ov :: xs) m2 else .stuck) else .stuck
  | none => .stuck := rfl
@[simp] theorem mLenOwn_ap (C : Str) (F : List Ar → Mu → R Ar) : mLenOwn C F e g mu = (e g mu).bd fun x m => match insOf C m x with
  | some _ => (match F [x] m with
    | .ok (.d (.int n)) m1 => if 0 ≤ n ∧ n < 2 ^ 63 then .ok (.d (.int n)) m1 else .stuck
    | _ => .stuck)
  | none => .stuck := rfl
@[simp] theorem mEqOwn_ap (C : Str) (F : List Ar → Mu → R Ar) : mEqOwn C F a b g mu = (a g mu).bd fun x m => (b g m).bd fun y m1 => match insOf C m1 x, y with
  | some _, .d (.tup _) => (match F [x, y] m1 with
    | .ok (.d (.bl r)) m2 => .ok (.d (.bl r)) m2
    | _ => .stuck)
  | some _, .d (.ins C' _ _) => if C' = C then (match F [x, y] m1 with
    | .ok (.d (.bl r)) m2 => .ok (.d (.bl r)) m2
    | _ => .stuck) else .stuck
  | _, _ => .stuck := rfl
@[simp] theorem mBM_ap (ty : Mu → Ar → Bool) (f : Mu → Ar → List Ar → Option (D × Mu)) (o : ME) (a : MA) : mBM ty f o a g mu = (o g mu).bd fun ov m => if ty m ov then (a g m).bd fun xs m1 => (match f m1 ov xs with
  | some (z, m2) => .ok (.d z) m2
  | none => .stuck) else .stuck := rfl
@[simp] theorem mSl_ap (f : Mu → Ar → Option Int → Option Int → Option D) (lo hi : MO) : mSl f e lo hi g mu = (e g mu).bd fun x m => (lo g m).bd fun l m1 => (hi g m1).bd fun h m2 => match f m2 x l h with
  | some z => .ok (.d z) m2
  | none => .stuck := rfl
@[simp] theorem mNoP_ap : mNoP g mu = .ok none mu := rfl
@[simp] theorem mPart_ap : mPart e g mu = (e g mu).bd fun x m => match x with
  | .d (.int i) => .ok (some i) m
  | _ => .stuck := rfl
@[simp] theorem mYes_ap : mYes g mu = .ok true mu := rfl
@[simp] theorem mItT_ap : mItT e g mu = (e g mu).bd fun x m => match x with
  | .d (.tup xs) => .ok xs m
  | _ => .stuck := rfl
@[simp] theorem mItL_ap : mItL e g mu = (e g mu).bd fun x m => match x with
  | .d (.lst xs) => .ok xs m
  | _ => .stuck := rfl
@[simp] theorem mRng1_ap (a : MA) : mRng1 a g mu = (a g mu).bd fun xs m => match xs with
  | [.d (.int j)] => if -(2 ^ 62) ≤ j ∧ j < 2 ^ 62 then .ok (rngD 0 j.toNat) m else .stuck
  | _ => .stuck := rfl
@[simp] theorem mRng2_ap (a : MA) : mRng2 a g mu = (a g mu).bd fun xs m => match xs with
  | [.d (.int i), .d (.int j)] => if -(2 ^ 62) ≤ i ∧ i < 2 ^ 62 ∧ -(2 ^ 62) ≤ j ∧ j < 2 ^ 62 then .ok (rngD i (j - i).toNat) m else .stuck
  | _ => .stuck := rfl
/-! suites -/
@[simp] theorem mSkip_ap : mSkip g mu = .nx g mu := rfl
@[simp] theorem mSeq_ap (x y : MS) : mSeq x y g mu = (x g mu).sq y := by
  unfold mSeq RS.sq
  split <;> simp_all
@[simp] theorem mBreak_ap : mBreak g mu = .bk g mu := rfl
@[simp] theorem mCont_ap : mCont g mu = .ct g mu := rfl
@[simp] theorem mRet_ap : mRet e g mu = (e g mu).st g fun x m => .rt x m := rfl
@[simp] theorem mRetN_ap : mRetN g mu = .rt (.d .non) mu := rfl
@[simp] theorem mDrop_ap : mDrop e g mu = (e g mu).st g fun _ m => .nx g m := rfl
@[simp] theorem mIfS_ap (x y : MS) : mIfS t x y g mu = (t g mu).st g fun v m => if v then x g m else y g m := rfl
@[simp] theorem mAsg_ap (t : MG) : mAsg e t g mu = (e g mu).st g fun x m => match t x g with
  | some g1 => .nx g1 m
  | none => .stuck := rfl
@[simp] theorem mPar_ap (i j : Nat) (a : MA) : mPar i j a g mu = (a g mu).st g fun xs m => match xs with
  | [x, y] => .nx ((g.set i (some x)).set j (some y)) m
  | _ => .stuck := rfl
@[simp] theorem mSetI_ap (o i : ME) : mSetI e o i g mu = (e g mu).st g fun x m => (o g m).st g fun ov m1 => (i g m1).st g fun iv m2 => match x with
  | .d x => match setC m2 ov iv x with
    | some m3 => .nx g m3
    | none => .stuck
  | _ => .stuck := rfl
@[simp] theorem mSetF_ap (C f : Str) (o : ME) : mSetF C f e o g mu = (e g mu).st g fun x m => (o g m).st g fun ov m1 => match x, ov with
  | .d x, .cel i => (match m1[i]? with
    | some (.ins C' ks ds) => if C' = C ∧ ks.length < 1000 then (match putK f x ks ds with
      | some (ks', ds') => .nx g (m1.set i (.ins C ks' ds'))
      | none => .stuck) else .stuck
    | _ => .stuck)
  | _, _ => .stuck := rfl
@[simp] theorem mRaise_ap (C f : Str) (a : MA) : mRaise C f a g mu = (a g mu).st g fun xs m => match xs with
  | [.d x] => .exc C [f] [x] g m
  | _ => .stuck := rfl
@[simp] theorem mFor_ap (i : MI) (t : MG) (b : MS) : mFor i t b g mu = (i g mu).st g fun ds m => forL t b ds g m := rfl
@[simp] theorem mForC_ap (f : Nat) (t : MG) (b : MS) : mForC f e t b g mu = (e g mu).st g fun x m => match x with
  | .cel n => forC n t b f 0 g m
  | _ => .stuck := rfl
@[simp] theorem gN_ap (i : Nat) (x : Ar) : gN i x g = some (g.set i (some x)) := rfl
@[simp] theorem asD_nil : asD [] = some [] := rfl
@[simp] theorem asD_cons (x : D) (r : List Ar) : asD (.d x :: r) = match asD r with
    | some xs => some (x :: xs)
    | none => none := rfl
end
/-! operations at data -/
section
variable (mu : Mu)
@[simp] theorem fAdd_int (i j : Int) : fAdd mu (.d (.int i)) (.d (.int j)) = some (.int (i + j)) := rfl
@[simp] theorem fAdd_str (a b : Str) : fAdd mu (.d (.str a)) (.d (.str b)) = if a.length + b.length ≤ 16777216 then some (.str (a ++ b)) else none := rfl
@[simp] theorem fAdd_tup (a b : List D) : fAdd mu (.d (.tup a)) (.d (.tup b)) = if a.length + b.length ≤ 16777216 then some (.tup (a ++ b)) else none := rfl
@[simp] theorem fAdd_lst (a b : List D) : fAdd mu (.d (.lst a)) (.d (.lst b)) = if a.length + b.length ≤ 16777216 then some (.lst (a ++ b)) else none := rfl
@[simp] theorem fSub_int (i j : Int) : fSub mu (.d (.int i)) (.d (.int j)) = some (.int (i - j)) := rfl
@[simp] theorem fNeg_int (i : Int) : fNeg mu (.d (.int i)) = some (.int (-i)) := rfl
@[simp] theorem fMod_int (i j : Int) : fMod mu (.d (.int i)) (.d (.int j)) = if 0 < j then some (.int (i % j)) else none := rfl
@[simp] theorem fDiv_int (i j : Int) : fDiv mu (.d (.int i)) (.d (.int j)) = if 0 < j ∧ j < 1073741824 then some (.int (i / j)) else none := by
  unfold fDiv fI L2.CDiv
  rfl
@[simp] theorem fMulA_int (i j : Int) : fMulA mu (.d (.int i)) (.d (.int j)) = if (-(2 ^ 64) < i ∧ i < 2 ^ 64) ∨ (-(2 ^ 64) < j ∧ j < 2 ^ 64) then some (.int (i * j)) else none := by
  unfold fMulA L2.CMul
  rfl
@[simp] theorem fMulA_tup (xs : List D) (k : Int) : fMulA mu (.d (.tup xs)) (.d (.int k)) = if xs.length = 0 ∨ k = 1 then (if -(2 ^ 63) ≤ k ∧ k < 2 ^ 63 then some (.tup xs) else none) else if 2 ≤ k ∧ k ≤ 1000 ∧ xs.length ≤ 1000 then some (.tup (List.replicate k.toNat xs).flatten) else none := rfl
@[simp] theorem fPow_int (i j : Int) : fPow mu (.d (.int i)) (.d (.int j)) = if 0 ≤ j ∧ j ≤ 1000000 ∧ i.natAbs < 2 ^ 64 then some (.int (i ^ j.toNat)) else none := by
  unfold fPow fI L2.CPow
  rfl
@[simp] theorem fLt_int (i j : Int) : fLt mu (.d (.int i)) (.d (.int j)) = some (.bl (decide (i < j))) := rfl
@[simp] theorem fLe_int (i j : Int) : fLe mu (.d (.int i)) (.d (.int j)) = some (.bl (decide (i ≤ j))) := rfl
@[simp] theorem fGt_int (i j : Int) : fGt mu (.d (.int i)) (.d (.int j)) = some (.bl (decide (j < i))) := rfl
@[simp] theorem fGe_int (i j : Int) : fGe mu (.d (.int i)) (.d (.int j)) = some (.bl (decide (j ≤ i))) := rfl
@[simp] theorem fIsB_bl (neg a b : Bool) : fIsB neg mu (.d (.bl a)) (.d (.bl b)) = some (.bl (decide (a = b) != neg)) := rfl
@[simp] theorem datOf_d (x : D) : datOf mu (.d x) = some x := rfl
@[simp] theorem datOf_cel (i : Nat) : datOf mu (.cel i) = match mu[i]? with
    | some (.lst xs) => some (.lst xs)
    | _ => none := rfl
theorem fEq_ap (neg : Bool) (x y : Ar) : fEq neg mu x y = match datOf mu x, datOf mu y with
  | some d, some e => if dok d = true ∧ dok e = true ∧ dep d ≤ 64 ∧ dep e ≤ 64 then some (.bl (deq d e != neg)) else none
  | _, _ => none := rfl
@[simp] theorem fEq_int (neg : Bool) (i j : Int) : fEq neg mu (.d (.int i)) (.d (.int j)) = some (.bl (decide (i = j) != neg)) := by
  unfold fEq
  simp [dok, dep, deq]
  rfl
theorem fEq_d (neg : Bool) {x y : D} (h1 : dok x = true) (h2 : dok y = true) (h3 : dep x ≤ 64) (h4 : dep y ≤ 64) : fEq neg mu (.d x) (.d y) = some (.bl (deq x y != neg)) := by
  unfold fEq
  simp [*]
@[simp] theorem fIx_tup (xs : List D) (i : Int) : fIx mu (.d (.tup xs)) (.d (.int i)) = L2.atI xs i := rfl
@[simp] theorem fIx_lst (xs : List D) (i : Int) : fIx mu (.d (.lst xs)) (.d (.int i)) = L2.atI xs i := rfl
@[simp] theorem fIx_cel (n : Nat) (i : Int) : fIx mu (.cel n) (.d (.int i)) = match mu[n]? with
    | some (.lst xs) => L2.atI xs i
    | _ => none := rfl
@[simp] theorem fIx_scr (ns : List Int) (i : Int) : fIx mu (.scr ns) (.d (.int i)) = match L2.atI ns i with
    | some k => some (.int k)
    | none => none := rfl
@[simp] theorem fSlA_tup (xs : List D) (lo hi : Option Int) : fSlA mu (.d (.tup xs)) lo hi = some (.tup (cutD xs lo hi)) := rfl
@[simp] theorem fSlA_lst (xs : List D) (lo hi : Option Int) : fSlA mu (.d (.lst xs)) lo hi = some (.lst (cutD xs lo hi)) := rfl
@[simp] theorem fSlA_str (s : Str) (lo hi : Option Int) : fSlA mu (.d (.str s)) lo hi = if s.length ≤ 16777216 then some (.str (cutS s lo hi)) else none := rfl
@[simp] theorem fLen_tup (xs : List D) : fLen mu [.d (.tup xs)] = some (.int (xs.length : Nat)) := rfl
@[simp] theorem fLen_lst (xs : List D) : fLen mu [.d (.lst xs)] = some (.int (xs.length : Nat)) := rfl
@[simp] theorem fLen_scr (ns : List Int) : fLen mu [.scr ns] = some (.int (ns.length : Nat)) := rfl
@[simp] theorem fLen_cel (n : Nat) : fLen mu [.cel n] = match mu[n]? with
    | some (.lst xs) => some (.int (xs.length : Nat))
    | _ => none := by
  show (match (match mu[n]? with
    | some (.lst xs) => some xs.length
    | _ => none) with
    | some n => some (D.int (n : Nat))
    | none => none) = _
  cases mu[n]? with
  | none => rfl
  | some c => cases c <;> rfl
@[simp] theorem fAbs_int (i : Int) : fAbs mu [.d (.int i)] = some (.int (if i < 0 then -i else i)) := rfl
@[simp] theorem fInt_int (i : Int) : fInt mu [.d (.int i)] = some (.int i) := rfl
@[simp] theorem fInt_bl (b : Bool) : fInt mu [.d (.bl b)] = some (.int (if b then 1 else 0)) := rfl
@[simp] theorem fStr_int (i : Int) : fStr mu [.d (.int i)] = if i.natAbs.log2 < 1920 then some (.str (toString i)) else none := rfl
@[simp] theorem fList_tup (xs : List D) : fList mu [.d (.tup xs)] = some (.lst xs) := rfl
@[simp] theorem fList_lst (xs : List D) : fList mu [.d (.lst xs)] = some (.lst xs) := rfl
@[simp] theorem fTuple_tup (xs : List D) : fTuple mu [.d (.tup xs)] = some (.tup xs) := rfl
@[simp] theorem fTuple_lst (xs : List D) : fTuple mu [.d (.lst xs)] = some (.tup xs) := rfl
@[simp] theorem fTuple_cel (n : Nat) : fTuple mu [.cel n] = match mu[n]? with
    | some (.lst xs) => some (.tup xs)
    | _ => none := by
  show (match (match mu[n]? with
    | some (.lst xs) => some xs
    | _ => none) with
    | some ds => some (D.tup ds)
    | none => none) = _
  cases mu[n]? with
  | none => rfl
  | some c => cases c <;> rfl
@[simp] theorem fMax2_int (i j : Int) : fMax2 mu [.d (.int i), .d (.int j)] = some (.int (if j > i then j else i)) := rfl
@[simp] theorem fMin2_int (i j : Int) : fMin2 mu [.d (.int i), .d (.int j)] = some (.int (if j < i then j else i)) := rfl
theorem blsD_map (p : D → Bool) : ∀ xs : List D, blsD (xs.map fun d => .bl (p d)) = some (xs.map p)
  | [] => rfl
  | x :: xs => by
    show (match blsD (xs.map fun d => D.bl (p d)) with
      | some bs => some (p x :: bs)
      | none => none) = _
    rw [blsD_map p xs]
    rfl
@[simp] theorem fAll_map (p : D → Bool) (xs : List D) : fAll mu [.d (.lst (xs.map fun d => .bl (p d)))] = some (.bl (xs.all p)) := by
  unfold fAll lstD
  simp [blsD_map, List.all_map]
@[simp] theorem fAny_map (p : D → Bool) (xs : List D) : fAny mu [.d (.lst (xs.map fun d => .bl (p d)))] = some (.bl (xs.any p)) := by
  unfold fAny lstD
  simp [blsD_map, List.any_map]
@[simp] theorem isTyA_d (kc : List Str) (T : String) (x : D) : isTyA kc T mu (.d x) = isTy kc T x := rfl
@[simp] theorem isTyA_cel (kc : List Str) (T : String) (n : Nat) : isTyA kc T mu (.cel n) = match mu[n]? with
    | some (.lst _) => some (T == "list")
    | _ => none := rfl
@[simp] theorem insOf_ins (C : Str) (ks : List Str) (ds : List D) : insOf C mu (.d (.ins C ks ds)) = some (ks, ds) := by
  unfold insOf
  simp
theorem insOf_cel (C : Str) {i : Nat} {ks : List Str} {ds : List D} (h : mu[i]? = some (.ins C ks ds)) : insOf C mu (.cel i) = some (ks, ds) := by
  unfold insOf
  simp [h]
end
/-! ### comprehensions -/
section
variable {vs : List Nat} {i : MI} {t : MG} {mt : MT} {me : ME} {g : Gm} {mu mu1 : Mu} {ds : List D}
theorem lcL_pure {n : Nat} {t : MG} {mt : MT} {me : ME} {g : Gm} {mu : Mu} (hn : mu.length = n) (p : D → Bool) (f : D → D) : ∀ (ds : List D) (acc : List D), acc.length + ds.length ≤ 16777216 → (∀ d ∈ ds, ∀ acc, ∃ g1, t (.d d) g = some g1 ∧ mt g1 (mu ++ [.lst acc]) = .ok (p d) (mu ++ [.lst acc]) ∧ (p d = true → me g1 (mu ++ [.lst acc]) = .ok (.d (f d)) (mu ++ [.lst acc]))) → lcL n g t mt me ds (mu ++ [.lst acc]) = .ok () (mu ++ [.lst (acc ++ (ds.filter p).map f)])
  | [], acc, _, _ => by simp [lcL]
  | d :: ds, acc, hl, h => by
    obtain ⟨g1, h1, h2, h3⟩ := h d (by simp) acc
    have ih : ∀ acc : List D, acc.length + ds.length ≤ 16777216 → lcL n g t mt me ds (mu ++ [.lst acc]) = .ok () (mu ++ [.lst (acc ++ (ds.filter p).map f)]) := fun acc hl => lcL_pure hn p f ds acc hl fun d hd => h d (by simp [hd])
    have hl' : acc.length + (ds.length + 1) ≤ 16777216 := hl
    unfold lcL
    rw [h1]
    dsimp only
    rw [h2]
    cases hp : p d with
    | true =>
      dsimp only
      rw [h3 hp]
      have e1 : (mu ++ [Cl.lst acc])[n]? = some (.lst acc) := by
        rw [List.getElem?_append_right (by omega)]; simp [hn]
      have e2 : (List.take (n + 1) (mu ++ [Cl.lst acc])).set n (.lst (acc ++ [f d])) = mu ++ [.lst (acc ++ [f d])] := by
        rw [List.take_of_length_le (by simp [hn]), List.set_append_right _ _ (by omega)]; simp [hn]
      dsimp only
      rw [e1]
      dsimp only
      rw [if_pos (by omega), e2, ih _ (by simp; omega)]
      simp [List.filter_cons, hp]
    | false =>
      have e2 : List.take (n + 1) (mu ++ [Cl.lst acc]) = mu ++ [.lst acc] := List.take_of_length_le (by simp [hn])
      dsimp only
      rw [e2, ih acc (by omega)]
      simp [List.filter_cons, hp]
theorem lc_pure (hi : i g mu = .ok ds mu1) (p : D → Bool) (f : D → D) (hl : ds.length ≤ 16777216) (h : ∀ d ∈ ds, ∀ acc, ∃ g1, t (.d d) (wipeG g vs) = some g1 ∧ mt g1 (mu1 ++ [.lst acc]) = .ok (p d) (mu1 ++ [.lst acc]) ∧ (p d = true → me g1 (mu1 ++ [.lst acc]) = .ok (.d (f d)) (mu1 ++ [.lst acc]))) : mLc vs i t mt me g mu = .ok (.d (.lst ((ds.filter p).map f))) mu1 := by
  unfold mLc
  rw [hi, bd_ok, lcL_pure rfl p f ds [] (by simpa using hl) h, bd_ok]
  simp
theorem lc_map (hi : i g mu = .ok ds mu1) (f : D → D) (hl : ds.length ≤ 16777216) (h : ∀ d ∈ ds, ∀ acc, ∃ g1, t (.d d) (wipeG g vs) = some g1 ∧ me g1 (mu1 ++ [.lst acc]) = .ok (.d (f d)) (mu1 ++ [.lst acc])) : mLc vs i t mYes me g mu = .ok (.d (.lst (ds.map f))) mu1 := by
  have q := lc_pure (vs := vs) (t := t) (mt := mYes) (me := me) hi (fun _ => true) f hl fun d hd acc => by
    obtain ⟨g1, a, b⟩ := h d hd acc
    exact ⟨g1, a, rfl, fun _ => b⟩
  have e : ds.filter (fun _ => true) = ds := List.filter_eq_self.mpr fun _ _ => rfl
  rw [e] at q
  exact q
/-- what is kept in the cells between -/
theorem lcL_inv {n : Nat} {t : MG} {me : ME} {g : Gm} (I : Mu → Prop) (Y : D → D → Prop) (hI : ∀ mu, I mu → mu.length = n) : ∀ (ds : List D) (acc : List D) (mu : Mu), I mu → acc.length + ds.length ≤ 16777216 → (∀ d ∈ ds, ∀ acc mu, I mu → ∃ g1 y mu', t (.d d) g = some g1 ∧ me g1 (mu ++ [.lst acc]) = .ok (.d y) (mu' ++ [.lst acc]) ∧ I mu' ∧ Y d y) → ∃ ys mu', lcL n g t mYes me ds (mu ++ [.lst acc]) = .ok () (mu' ++ [.lst (acc ++ ys)]) ∧ I mu' ∧ Fa2 Y ds ys
  | [], acc, mu, hi, _, _ => ⟨[], mu, by simp [lcL], hi, .nil⟩
  | d :: ds, acc, mu, hi, hl, h => by
    obtain ⟨g1, y, mu', h1, h2, h3, h4⟩ := h d (by simp) acc mu hi
    have hl' : acc.length + (ds.length + 1) ≤ 16777216 := hl
    obtain ⟨ys, mu2, e, i2, y2⟩ := lcL_inv (me := me) I Y hI ds (acc ++ [y]) mu' h3 (by simp; omega) fun d hd => h d (by simp [hd])
    refine ⟨y :: ys, mu2, ?_, i2, .cons h4 y2⟩
    have hn := hI _ h3
    have e1 : (mu' ++ [Cl.lst acc])[n]? = some (.lst acc) := by
      rw [List.getElem?_append_right (by omega)]; simp [hn]
    have e2 : (List.take (n + 1) (mu' ++ [Cl.lst acc])).set n (.lst (acc ++ [y])) = mu' ++ [.lst (acc ++ [y])] := by
      rw [List.take_of_length_le (by simp [hn]), List.set_append_right _ _ (by omega)]; simp [hn]
    unfold lcL
    rw [h1]
    dsimp only
    rw [mYes_ap]
    dsimp only
    rw [h2]
    dsimp only
    rw [e1]
    dsimp only
    rw [if_pos (by omega), e2, e]
    simp
theorem lc_inv (I : Mu → Prop) (Y : D → D → Prop) (hI : ∀ mu, I mu → mu.length = mu1.length) (hi : i g mu = .ok ds mu1) (h0 : I mu1) (hl : ds.length ≤ 16777216) (h : ∀ d ∈ ds, ∀ acc mu, I mu → ∃ g1 y mu', t (.d d) (wipeG g vs) = some g1 ∧ me g1 (mu ++ [.lst acc]) = .ok (.d y) (mu' ++ [.lst acc]) ∧ I mu' ∧ Y d y) : ∃ ys mu', mLc vs i t mYes me g mu = .ok (.d (.lst ys)) mu' ∧ I mu' ∧ Fa2 Y ds ys := by
  obtain ⟨ys, mu', e, i1, y1⟩ := lcL_inv (me := me) I Y hI ds [] mu1 h0 (by simpa using hl) h
  refine ⟨ys, mu', ?_, i1, y1⟩
  unfold mLc
  rw [hi, bd_ok, e, bd_ok]
  simp [← hI _ i1]
end
/-! ### loops -/
section
variable {t : MG} {b : MS}
@[simp] theorem forL_nil (g : Gm) (m : Mu) : forL t b [] g m = .nx g m := by unfold forL; rfl
/-- a loop that runs to its end, with what holds between two turns -/
theorem forL_inv (I : List D → Gm → Mu → Prop) : ∀ (ds : List D) (g : Gm) (m : Mu), I ds g m → (∀ d ds g m, I (d :: ds) g m → ∃ g1, t (.d d) g = some g1 ∧ ∃ g2 m2, (b g1 m = .nx g2 m2 ∨ b g1 m = .ct g2 m2) ∧ I ds g2 m2) → ∃ g2 m2, forL t b ds g m = .nx g2 m2 ∧ I [] g2 m2
  | [], g, m, h, _ => ⟨g, m, by simp, h⟩
  | d :: ds, g, m, h, k => by
    obtain ⟨g1, h1, g2, m2, h2, h3⟩ := k d ds g m h
    obtain ⟨g3, m3, e, i⟩ := forL_inv I ds g2 m2 h3 k
    refine ⟨g3, m3, ?_, i⟩
    unfold forL
    rw [h1]
    rcases h2 with h2 | h2 <;> (dsimp only; rw [h2]; exact e)
theorem forL_cons (d : D) (ds : List D) (g : Gm) (m : Mu) : forL t b (d :: ds) g m = match t (.d d) g with
    | none => .stuck
    | some g1 => match b g1 m with
      | .nx g2 m2 => forL t b ds g2 m2
      | .ct g2 m2 => forL t b ds g2 m2
      | .bk g2 m2 => .nx g2 m2
      | .rt x m2 => .rt x m2
      | .exc C ks es g2 m2 => .exc C ks es g2 m2
      | .stuck => .stuck := by
  conv => lhs; unfold forL
  try rfl
/-- a loop over a cell that it does not write -/
theorem forC_inv {n : Nat} {xs : List D} (I : Nat → Gm → Mu → Prop) (hI : ∀ k g m, I k g m → m[n]? = some (.lst xs)) : ∀ (f k : Nat) (g : Gm) (m : Mu), k ≤ xs.length → xs.length - k < f → I k g m → (∀ k g m, I k g m → ∀ d, xs[k]? = some d → ∃ g1, t (.d d) g = some g1 ∧ ∃ g2 m2, (b g1 m = .nx g2 m2 ∨ b g1 m = .ct g2 m2) ∧ I (k + 1) g2 m2) → ∃ g2 m2, forC n t b f k g m = .nx g2 m2 ∧ I xs.length g2 m2
  | 0, _, _, _, _, hf, _, _ => by omega
  | f + 1, k, g, m, hk, hf, h, st => by
    unfold forC
    rw [hI k g m h]
    dsimp only
    by_cases hx : k < xs.length
    · have e : xs[k]? = some xs[k] := by simp [hx]
      rw [e]
      dsimp only
      obtain ⟨g1, h1, g2, m2, h2, h3⟩ := st k g m h _ e
      obtain ⟨g3, m3, e3, i3⟩ := forC_inv (n := n) I hI f (k + 1) g2 m2 hx (by omega) h3 st
      refine ⟨g3, m3, ?_, i3⟩
      rw [h1]
      rcases h2 with h2 | h2 <;> (dsimp only; rw [h2]; exact e3)
    · have e : xs[k]? = none := by simp; omega
      have hk' : k = xs.length := by omega
      rw [e]
      exact ⟨g, m, rfl, hk' ▸ h⟩
end
end Dw
namespace K02
open PySem Dw
def m_is_integer : MS := (mRet (mAndV (mIsi [] "int" (mVar 0)) (mNotV (mIsi [] "bool" (mVar 0)))))
def M_is_integer : List Ar → Mu → R Ar := fnM 1 m_is_integer
def m_is_within : MS := (mRet (mAndV (mCall 1 M_is_integer (mCons (mVar 0) mNil)) (mChain fLe fLe (mVar 1) (mVar 0) (mVar 2))))
def M_is_within : List Ar → Mu → R Ar := fnM 3 m_is_within
def m_is_tuple : MS := (mRet (mAndV (mIsi [] "tuple" (mVar 0)) (mChain fLe fLe (mVar 1) (mCB fLen (mCons (mVar 0) mNil)) (mVar 2))))
def M_is_tuple : List Ar → Mu → R Ar := fnM 3 m_is_tuple
def m_are_within : MS := (mRet (mAndV (mCall 3 M_is_tuple (mCons (mVar 0) (mCons (mVar 1) (mCons (mVar 1) mNil)))) (mCB fAll (mCons (mLc [4] (mItT (mVar 0)) (gN 4) mYes (mCall 3 M_is_within (mCons (mVar 4) (mCons (mVar 2) (mCons (mVar 3) mNil))))) mNil))))
def M_are_within : List Ar → Mu → R Ar := fnM 5 m_are_within
def m_is_row : MS := (mRet (mAndV (mIsi [] "tuple" (mVar 0)) (mCB fAll (mCons (mLc [2] (mItT (mVar 0)) (gN 2) mYes (mCall 3 M_is_within (mCons (mVar 2) (mCons (mC (.int 0)) (mCons (mBin fSub (mVar 1) (mC (.int 1))) mNil))))) mNil))))
def M_is_row : List Ar → Mu → R Ar := fnM 3 m_is_row
def m_is_table : MS := (mSeq (mIfS (mNot (mB (mCall 3 M_is_tuple (mCons (mVar 0) (mCons (mC (.int 1)) (mCons (mC (.int 12)) mNil))))))
    (mRet (mC (.bl false)))
    mSkip)
    (mRet (mCB fAll (mCons (mLc [2] (mItT (mVar 0)) (gN 2) mYes (mCall 4 M_are_within (mCons (mVar 2) (mCons (mVar 1) (mCons (mUn fNeg (mC (.int 1))) (mCons (mBin fSub (mCB fLen (mCons (mVar 0) mNil)) (mC (.int 1))) mNil)))))) mNil))))
def M_is_table : List Ar → Mu → R Ar := fnM 3 m_is_table
def m_Machine_init : MS := (mSeq (mIfS (mNot (mB (mCall 3 M_is_within (mCons (mVar 1) (mCons (mC (.int 1)) (mCons (mC (.int 3)) mNil))))))
    (mRaise "InvalidNumber" "value" (mCons (mVar 1) mNil))
    mSkip)
    (mSeq (mIfS (mNot (mB (mCall 2 M_is_table (mCons (mVar 2) (mCons (mVar 1) mNil)))))
    (mRaise "InvalidTable" "value" (mCons (mVar 2) mNil))
    mSkip)
    (mSeq (mSetF "Machine" "letters" (mVar 1) (mVar 0))
    (mSetF "Machine" "table" (mVar 2) (mVar 0)))))
def M_Machine_init : List Ar → Mu → R Ar := fnM 3 m_Machine_init
def m_Machine_len : MS := (mRet (mCB fLen (mCons (mFld "Machine" "table" (mVar 0)) mNil)))
def M_Machine_len : List Ar → Mu → R Ar := fnM 1 m_Machine_len
def m_Machine_eq : MS := (mRet (mAndV (mIsiC "Machine" (mVar 1)) (mAndV (mBin (fEq false) (mFld "Machine" "letters" (mVar 0)) (mFld "Machine" "letters" (mVar 1))) (mBin (fEq false) (mFld "Machine" "table" (mVar 0)) (mFld "Machine" "table" (mVar 1))))))
def M_Machine_eq : List Ar → Mu → R Ar := fnM 2 m_Machine_eq
def m_Machine_after : MS := (mSeq (mIfS (mNot (mB (mCall 2 M_is_row (mCons (mVar 1) (mCons (mFld "Machine" "letters" (mVar 0)) mNil)))))
    (mRaise "InvalidRow" "value" (mCons (mVar 1) mNil))
    mSkip)
    (mSeq (mAsg (mC (.int 0)) (gN 2))
    (mSeq (mFor (mItT (mVar 1)) (gN 3)
    (mIfS (mB (mBin fGe (mVar 2) (mC (.int 0))))
    (mAsg (mBin fIx (mBin fIx (mFld "Machine" "table" (mVar 0)) (mVar 2)) (mVar 3)) (gN 2))
    mSkip))
    (mRet (mVar 2)))))
def M_Machine_after : List Ar → Mu → R Ar := fnM 4 m_Machine_after
def m_law_box : MS := (mSeq (mAsg (mBin fAdd (mBin fMulA (mC (.int 7919)) (mVar 1)) (mC (.int 101))) (gN 2))
    (mSeq (mIfS (mB (mBin fLt (mVar 1) (mCB fLen (mCons (mVar 0) mNil))))
    (mAsg (mCB fAbs (mCons (mBin fIx (mVar 0) (mVar 1)) mNil)) (gN 2))
    (mIfS (mB (mBin fGt (mCB fLen (mCons (mVar 0) mNil)) (mC (.int 0))))
    (mAsg (mBin fAdd (mBin fMulA (mBin fMod (mCB fInt (mCons (mCB fAbs (mCons (mBin fIx (mVar 0) (mBin fMod (mCB fInt (mCons (mVar 1) mNil)) (mCB fLen (mCons (mVar 0) mNil)))) mNil)) mNil)) (mC (.int 1000000007))) (mC (.int 31))) (mBin fMulA (mC (.int 7919)) (mVar 1))) (gN 2))
    mSkip))
    (mSeq (mAsg (mBin fIx (mLst (mCons (mC (.int 0)) (mCons (mVar 2) mNil))) (mCB fInt (mCons (mBin fGe (mVar 2) (mBin fPow (mC (.int 10)) (mC (.int 18)))) mNil))) (gN 3))
    (mRet (mLstC (mCons (mVar 3) (mCons (mBin fAdd (mBin fMod (mCB fInt (mCons (mBin fAdd (mBin fMulA (mBin fMod (mCB fInt (mCons (mVar 2) mNil)) (mC (.int 1000000007))) (mC (.int 48271))) (mBin fMulA (mC (.int 613)) (mVar 1))) mNil)) (mC (.int 2147483647))) (mC (.int 1))) mNil)))))))
def M_law_box : List Ar → Mu → R Ar := fnM 4 m_law_box
def m_law_take : MS := (mSeq (mIfS (mB (mBin fGt (mBin fIx (mVar 0) (mC (.int 0))) (mC (.int 0))))
    (mSeq (mAsg (mBin fMod (mCB fInt (mCons (mBin fIx (mVar 0) (mC (.int 0))) mNil)) (mVar 1)) (gN 2))
    (mSeq (mSetI (mBin fDiv (mBin fIx (mVar 0) (mC (.int 0))) (mVar 1)) (mVar 0) (mC (.int 0)))
    (mRet (mVar 2))))
    mSkip)
    (mSeq (mSetI (mBin fMod (mCB fInt (mCons (mBin fAdd (mBin fMulA (mBin fIx (mVar 0) (mC (.int 1))) (mC (.int 39373))) (mC (.int 69621))) mNil)) (mC (.int 2147483647))) (mVar 0) (mC (.int 1)))
    (mRet (mBin fMod (mCB fInt (mCons (mBin fDiv (mBin fIx (mVar 0) (mC (.int 1))) (mC (.int 8191))) mNil)) (mVar 1)))))
def M_law_take : List Ar → Mu → R Ar := fnM 3 m_law_take
def m_law_pick : MS := (mRet (mBin fIx (mVar 1) (mCall 2 M_law_take (mCons (mVar 0) (mCons (mCB fLen (mCons (mVar 1) mNil)) mNil)))))
def M_law_pick : List Ar → Mu → R Ar := fnM 2 m_law_pick
def m_law_whole : MS := (mRet (mAndV (mIsi [] "int" (mVar 0)) (mNotV (mIsi [] "bool" (mVar 0)))))
def M_law_whole : List Ar → Mu → R Ar := fnM 1 m_law_whole
def m_law_is_due : MS := (mRet (mIf (mB (mVar 1)) (mBin (fIsB false) (mVar 0) (mC (.bl true))) (mBin (fIsB false) (mVar 0) (mC (.bl false)))))
def M_law_is_due : List Ar → Mu → R Ar := fnM 2 m_law_is_due
def m_law_spoilt (F : List Ar → Mu → R Ar) : MS := (mSeq (mIfS (mB (mIsi [] "tuple" (mVar 1)))
    (mSeq (mAsg (mCall 2 M_law_take (mCons (mVar 0) (mCons (mBin fAdd (mCB fLen (mCons (mVar 1) mNil)) (mC (.int 1))) mNil))) (gN 3))
    (mSeq (mIfS (mAnd (mB (mBin (fEq true) (mVar 1) (mTup mNil))) (mAnd (mB (mBin fGt (mVar 2) (mC (.int 0)))) (mB (mBin fGt (mCall 2 M_law_take (mCons (mVar 0) (mCons (mC (.int 5)) mNil))) (mC (.int 0))))))
    (mSeq (mAsg (mBin fMod (mCB fInt (mCons (mVar 3) mNil)) (mCB fLen (mCons (mVar 1) mNil))) (gN 3))
    (mRet (mBin fAdd (mBin fAdd (mSl fSlA (mVar 1) mNoP (mPart (mVar 3))) (mTup (mCons (mCall 3 F (mCons (mVar 0) (mCons (mBin fIx (mVar 1) (mVar 3)) (mCons (mBin fSub (mVar 2) (mC (.int 1))) mNil)))) mNil))) (mSl fSlA (mVar 1) (mPart (mBin fAdd (mVar 3) (mC (.int 1)))) mNoP))))
    mSkip)
    (mSeq (mAsg (mCall 2 M_law_take (mCons (mVar 0) (mCons (mC (.int 8)) mNil))) (gN 4))
    (mSeq (mIfS (mB (mBin (fEq false) (mVar 4) (mC (.int 0))))
    (mRet (mCB fList (mCons (mVar 1) mNil)))
    mSkip)
    (mSeq (mIfS (mB (mBin (fEq false) (mVar 4) (mC (.int 1))))
    (mRet (mBin fAdd (mSl fSlA (mVar 1) mNoP (mPart (mVar 3))) (mSl fSlA (mVar 1) (mPart (mBin fAdd (mVar 3) (mC (.int 1)))) mNoP)))
    mSkip)
    (mSeq (mIfS (mB (mBin (fEq false) (mVar 4) (mC (.int 2))))
    (mRet (mBin fAdd (mBin fAdd (mSl fSlA (mVar 1) mNoP (mPart (mVar 3))) (mSl fSlA (mVar 1) (mPart (mVar 3)) (mPart (mBin fAdd (mVar 3) (mC (.int 1)))))) (mSl fSlA (mVar 1) (mPart (mVar 3)) mNoP)))
    mSkip)
    (mSeq (mIfS (mB (mBin (fEq false) (mVar 4) (mC (.int 3))))
    (mRet (mBin fAdd (mSl fSlA (mVar 1) (mPart (mVar 3)) mNoP) (mSl fSlA (mVar 1) mNoP (mPart (mVar 3)))))
    mSkip)
    (mSeq (mIfS (mB (mBin (fEq false) (mVar 4) (mC (.int 4))))
    (mRet (mBin fAdd (mVar 1) (mTup (mCons (mTup mNil) mNil))))
    mSkip)
    (mSeq (mIfS (mB (mBin (fEq false) (mVar 4) (mC (.int 5))))
    (mRet (mBin fAdd (mBin fAdd (mSl fSlA (mVar 1) mNoP (mPart (mVar 3))) (mTup (mCons (mC (.int 0)) mNil))) (mSl fSlA (mVar 1) (mPart (mVar 3)) mNoP)))
    mSkip)
    (mSeq (mIfS (mB (mBin (fEq false) (mVar 4) (mC (.int 6))))
    (mRet (mBin fAdd (mSl fSlA (mVar 1) mNoP (mPart (mUn fNeg (mC (.int 1))))) (mSl fSlA (mVar 1) mNoP (mPart (mC (.int 1))))))
    mSkip)
    (mRet (mC .non))))))))))))
    mSkip)
    (mSeq (mIfS (mB (mIsi [] "str" (mVar 1)))
    (mRet (mCall 2 M_law_pick (mCons (mVar 0) (mCons (mLst (mCons (mBin fAdd (mVar 1) (mC (.str "b"))) (mCons (mC (.str "")) (mCons (mSl fSlA (mVar 1) (mPart (mC (.int 1))) mNoP) (mCons (mBin fAdd (mC (.str "a")) (mVar 1)) (mCons (mC (.int 0)) mNil)))))) mNil))))
    mSkip)
    (mSeq (mIfS (mB (mCall 1 M_law_whole (mCons (mVar 1) mNil)))
    (mRet (mCall 2 M_law_pick (mCons (mVar 0) (mCons (mLst (mCons (mBin fAdd (mVar 1) (mC (.int 1))) (mCons (mBin fSub (mVar 1) (mC (.int 1))) (mCons (mBin fGt (mVar 1) (mC (.int 0))) (mCons (mBin fSub (mUn fNeg (mC (.int 1))) (mVar 1)) (mCons (mTup (mCons (mVar 1) mNil)) (mCons (mC .non) (mCons (mCB fStr (mCons (mVar 1) mNil)) (mCons (mBin fAdd (mVar 1) (mC (.int 16))) mNil))))))))) mNil))))
    mSkip)
    (mRet (mCall 2 M_law_pick (mCons (mVar 0) (mCons (mLst (mCons (mC (.int 0)) (mCons (mTup mNil) (mCons (mC (.str "none")) mNil)))) mNil)))))))
def M_law_spoilt : Nat → List Ar → Mu → R Ar
  | 0 => fun _ _ => .stuck
  | n + 1 => fnM 5 (m_law_spoilt (M_law_spoilt n))
def m_law_table : MS := (mSeq (mAsg (mBin fAdd (mC (.int 1)) (mCall 2 M_law_take (mCons (mVar 0) (mCons (mVar 2) mNil)))) (gN 3))
    (mSeq (mAsg (mCall 2 M_law_pick (mCons (mVar 0) (mCons (mLst (mCons (mC (.int 2)) (mCons (mC (.int 4)) (mCons (mC (.int 8)) mNil)))) mNil))) (gN 4))
    (mSeq (mAsg (mLstC mNil) (gN 5))
    (mSeq (mFor (mRng1 (mCons (mVar 3) mNil)) (gN 6)
    (mDrop (mBM isLC fAppend (mVar 5) (mCons (mCB fTuple (mCons (mLc [7] (mRng1 (mCons (mVar 1) mNil)) (gN 7) mYes (mIf (mB (mBin fGt (mCall 2 M_law_take (mCons (mVar 0) (mCons (mVar 4) mNil))) (mC (.int 0)))) (mCall 2 M_law_take (mCons (mVar 0) (mCons (mVar 3) mNil))) (mUn fNeg (mC (.int 1))))) mNil)) mNil))))
    (mRet (mCB fTuple (mCons (mVar 5) mNil)))))))
def M_law_table : List Ar → Mu → R Ar := fnM 8 m_law_table
def m_law_after : MS := (mSeq (mAsg (mC (.int 0)) (gN 2))
    (mSeq (mFor (mItT (mVar 1)) (gN 3)
    (mIfS (mB (mBin fGe (mVar 2) (mC (.int 0))))
    (mAsg (mBin fIx (mBin fIx (mVar 0) (mVar 2)) (mVar 3)) (gN 2))
    mSkip))
    (mRet (mVar 2))))
def M_law_after : List Ar → Mu → R Ar := fnM 4 m_law_after
def m_law_is_table : MS := (mSeq (mIfS (mOr (mNot (mB (mIsi [] "tuple" (mVar 0)))) (mOr (mB (mBin fLt (mCB fLen (mCons (mVar 0) mNil)) (mC (.int 1)))) (mB (mBin fGt (mCB fLen (mCons (mVar 0) mNil)) (mC (.int 12))))))
    (mRet (mC (.bl false)))
    mSkip)
    (mSeq (mFor (mItT (mVar 0)) (gN 2)
    (mSeq (mIfS (mOr (mNot (mB (mIsi [] "tuple" (mVar 2)))) (mB (mBin (fEq true) (mCB fLen (mCons (mVar 2) mNil)) (mVar 1))))
    (mRet (mC (.bl false)))
    mSkip)
    (mIfS (mB (mBin (fEq true) (mLc [3] (mItT (mVar 2)) (gN 3) (mOr (mNot (mB (mCall 1 M_law_whole (mCons (mVar 3) mNil)))) (mOr (mB (mBin fLt (mVar 3) (mUn fNeg (mC (.int 1))))) (mB (mBin fGe (mVar 3) (mCB fLen (mCons (mVar 0) mNil)))))) (mVar 3)) (mLst mNil)))
    (mRet (mC (.bl false)))
    mSkip)))
    (mRet (mC (.bl true)))))
def M_law_is_table : List Ar → Mu → R Ar := fnM 4 m_law_is_table
def m_law_told : MS := (mSeq (mTry ["InvalidNumber", "InvalidTable", "InvalidRow"] (mAsg (mMake "Machine" 2 M_Machine_init (mCons (mVar 0) (mCons (mVar 1) mNil))) (gN 2))
    [⟨"InvalidNumber", (some 3), (mRet (mTup (mCons (mC (.str "number")) (mCons (mXf "value" (mVar 3)) mNil))))⟩,
    ⟨"InvalidTable", (some 3), (mRet (mTup (mCons (mC (.str "table")) (mCons (mXf "value" (mVar 3)) mNil))))⟩])
    (mRet (mTup (mCons (mC (.str "kept")) (mCons (mFld "Machine" "table" (mVar 2)) mNil)))))
def M_law_told : List Ar → Mu → R Ar := fnM 4 m_law_told
def m_law : MS := (mSeq (mAsg (mCall 2 M_law_box (mCons (mVar 0) (mCons (mC (.int 0)) mNil))) (gN 1))
    (mSeq (mAsg (mBin fAdd (mC (.int 1)) (mCall 2 M_law_take (mCons (mVar 1) (mCons (mC (.int 3)) mNil)))) (gN 2))
    (mSeq (mAsg (mCall 3 M_law_table (mCons (mCall 2 M_law_box (mCons (mVar 0) (mCons (mC (.int 1)) mNil))) (mCons (mVar 2) (mCons (mC (.int 12)) mNil)))) (gN 3))
    (mSeq (mAsg (mMake "Machine" 2 M_Machine_init (mCons (mVar 2) (mCons (mVar 3) mNil))) (gN 4))
    (mSeq (mIfS (mOr (mB (mBin (fEq true) (mFld "Machine" "letters" (mVar 4)) (mVar 2))) (mOr (mB (mBin (fEq true) (mFld "Machine" "table" (mVar 4)) (mVar 3))) (mB (mBin (fEq true) (mLenOwn "Machine" M_Machine_len (mVar 4)) (mCB fLen (mCons (mVar 3) mNil))))))
    (mRet (mC (.bl false)))
    mSkip)
    (mSeq (mIfS (mOr (mNot (mB (mEqOwn "Machine" M_Machine_eq (mVar 4) (mMake "Machine" 2 M_Machine_init (mCons (mVar 2) (mCons (mVar 3) mNil)))))) (mB (mEqOwn "Machine" M_Machine_eq (mVar 4) (mVar 3))))
    (mRet (mC (.bl false)))
    mSkip)
    (mSeq (mAsg (mIf (mB (mBin fLt (mCB fLen (mCons (mVar 3) mNil)) (mC (.int 7)))) (mMake "Machine" 2 M_Machine_init (mCons (mVar 2) (mCons (mBin fAdd (mVar 3) (mVar 3)) mNil))) (mVar 4)) (gN 5))
    (mSeq (mIfS (mNot (mB (mCall 2 M_law_is_due (mCons (mEqOwn "Machine" M_Machine_eq (mVar 4) (mVar 5)) (mCons (mBin fGe (mCB fLen (mCons (mVar 3) mNil)) (mC (.int 7))) mNil)))))
    (mRet (mC (.bl false)))
    mSkip)
    (mSeq (mAsg (mLstC (mCons (mVar 3) (mCons (mCB fList (mCons (mVar 3) mNil)) (mCons (mSl fSlA (mVar 3) (mPart (mC (.int 1))) mNoP) (mCons (mBin fMulA (mVar 3) (mC (.int 2))) (mCons (mBin fMulA (mVar 3) (mC (.int 13))) (mCons (mTup mNil) (mCons (mC .non) (mCons (mC (.int 0)) (mCons (mBin fAdd (mSl fSlA (mVar 3) mNoP (mPart (mUn fNeg (mC (.int 1))))) (mTup (mCons (mBin fAdd (mBin fIx (mVar 3) (mUn fNeg (mC (.int 1)))) (mTup (mCons (mC (.int 0)) mNil))) mNil))) (mCons (mBin fAdd (mVar 3) (mTup (mCons (mCB fList (mCons (mBin fIx (mVar 3) (mC (.int 0))) mNil)) mNil))) mNil))))))))))) (gN 6))
    (mSeq (mAsg (mBinC fCatC (mVar 6) (mLst (mCons (mBin fMulA (mTup (mCons (mBin fMulA (mTup (mCons (mCB fLen (mCons (mVar 3) mNil)) mNil)) (mVar 2)) mNil)) (mCB fLen (mCons (mVar 3) mNil))) (mCons (mBin fMulA (mTup (mCons (mBin fMulA (mTup (mCons (mUn fNeg (mC (.int 2))) mNil)) (mVar 2)) mNil)) (mCB fLen (mCons (mVar 3) mNil))) (mCons (mBin fMulA (mTup (mCons (mBin fMulA (mTup (mCons (mC (.bl true)) mNil)) (mVar 2)) mNil)) (mCB fLen (mCons (mVar 3) mNil))) mNil))))) (gN 6))
    (mSeq (mFor (mRng1 (mCons (mC (.int 5)) mNil)) (gN 7)
    (mDrop (mBM isLC fAppend (mVar 6) (mCons (mCall 3 (M_law_spoilt 3) (mCons (mVar 1) (mCons (mVar 3) (mCons (mC (.int 2)) mNil)))) mNil))))
    (mSeq (mForC 200 (mVar 6) (gN 8)
    (mSeq (mAsg (mIf (mB (mCall 2 M_law_is_table (mCons (mVar 8) (mCons (mVar 2) mNil)))) (mTup (mCons (mC (.str "kept")) (mCons (mVar 8) mNil))) (mTup (mCons (mC (.str "table")) (mCons (mVar 8) mNil)))) (gN 9))
    (mIfS (mB (mBin (fEq true) (mCall 2 M_law_told (mCons (mVar 2) (mCons (mVar 8) mNil))) (mVar 9)))
    (mRet (mC (.bl false)))
    mSkip)))
    (mSeq (mFor (mItL (mLst (mCons (mC (.int 0)) (mCons (mC (.int 4)) (mCons (mUn fNeg (mC (.int 1))) (mCons (mC .non) (mCons (mC (.bl true)) (mCons (mC (.str "2")) mNil)))))))) (gN 10)
    (mIfS (mB (mBin (fEq true) (mCall 2 M_law_told (mCons (mVar 10) (mCons (mVar 3) mNil))) (mTup (mCons (mC (.str "number")) (mCons (mVar 10) mNil)))))
    (mRet (mC (.bl false)))
    mSkip))
    (mSeq (mFor (mRng1 (mCons (mC (.int 6)) mNil)) (gN 7)
    (mSeq (mAsg (mCB fTuple (mCons (mLc [12] (mRng1 (mCons (mCall 2 M_law_take (mCons (mVar 1) (mCons (mC (.int 21)) mNil))) mNil)) (gN 12) mYes (mCall 2 M_law_take (mCons (mVar 1) (mCons (mVar 2) mNil)))) mNil)) (gN 11))
    (mSeq (mAsg (mMeth "Machine" "after" 1 M_Machine_after (mVar 4) (mCons (mVar 11) mNil)) (gN 13))
    (mIfS (mOr (mB (mBin (fIsB true) (mCall 2 M_is_row (mCons (mVar 11) (mCons (mVar 2) mNil))) (mC (.bl true)))) (mOr (mNot (mB (mCall 1 M_law_whole (mCons (mVar 13) mNil)))) (mB (mBin (fEq true) (mVar 13) (mCall 2 M_law_after (mCons (mVar 3) (mCons (mVar 11) mNil)))))))
    (mRet (mC (.bl false)))
    mSkip))))
    (mSeq (mAsg (mBin fMulA (mCB fTuple (mCons (mLc [12] (mRng1 (mCons (mC (.int 40)) mNil)) (gN 12) mYes (mCall 2 M_law_take (mCons (mVar 1) (mCons (mVar 2) mNil)))) mNil)) (mC (.int 60))) (gN 11))
    (mSeq (mAsg (mMake "Machine" 2 M_Machine_init (mCons (mVar 2) (mCons (mCB fTuple (mCons (mLc [16] (mItT (mVar 3)) (gN 16) mYes (mCB fTuple (mCons (mLc [15] (mItT (mVar 16)) (gN 15) mYes (mCB fMax2 (mCons (mC (.int 0)) (mCons (mVar 15) mNil)))) mNil))) mNil)) mNil))) (gN 14))
    (mSeq (mIfS (mOr (mB (mBin (fEq true) (mMeth "Machine" "after" 1 M_Machine_after (mVar 4) (mCons (mVar 11) mNil)) (mCall 2 M_law_after (mCons (mVar 3) (mCons (mVar 11) mNil))))) (mOr (mB (mBin (fEq true) (mMeth "Machine" "after" 1 M_Machine_after (mVar 14) (mCons (mVar 11) mNil)) (mCall 2 M_law_after (mCons (mFld "Machine" "table" (mVar 14)) (mCons (mVar 11) mNil))))) (mB (mBin (fIsB true) (mCall 2 M_is_row (mCons (mVar 11) (mCons (mVar 2) mNil))) (mC (.bl true))))))
    (mRet (mC (.bl false)))
    mSkip)
    (mSeq (mFor (mItL (mLst (mCons (mLst (mCons (mC (.int 0)) mNil)) (mCons (mTup (mCons (mVar 2) mNil)) (mCons (mTup (mCons (mUn fNeg (mC (.int 1))) mNil)) (mCons (mTup (mCons (mC (.bl true)) mNil)) (mCons (mC .non) (mCons (mC (.int 0)) (mCons (mC (.str "0")) (mCons (mTup (mCons (mTup (mCons (mC (.int 0)) mNil)) mNil)) mNil)))))))))) (gN 10)
    (mSeq (mIfS (mB (mBin (fIsB true) (mCall 2 M_is_row (mCons (mVar 10) (mCons (mVar 2) mNil))) (mC (.bl false))))
    (mRet (mC (.bl false)))
    mSkip)
    (mTry ["InvalidNumber", "InvalidTable", "InvalidRow"] (mSeq (mDrop (mMeth "Machine" "after" 1 M_Machine_after (mVar 4) (mCons (mVar 10) mNil)))
    (mRet (mC (.bl false))))
    [⟨"InvalidRow", (some 17), (mIfS (mB (mBin (fEq true) (mXf "value" (mVar 17)) (mVar 10)))
    (mRet (mC (.bl false)))
    mSkip)⟩])))
    (mRet (mC (.bl true)))))))))))))))))))))
def M_law : List Ar → Mu → R Ar := fnM 18 m_law
end K02
namespace K02
open PySem Dw
def bx (x y : Int) : Cl := .lst [.int x, .int y]
/-- a box stands in cell b -/
def Bx (mu : Mu) (b : Nat) : Prop := ∃ x y, mu[b]? = some (bx x y) ∧ 0 ≤ x ∧ 0 ≤ y
def Bm (mu : Mu) (b : Nat) (mu' : Mu) : Prop := ∃ x y, mu' = mu.set b (bx x y) ∧ 0 ≤ x ∧ 0 ≤ y
theorem atI_0 {α : Type} (a : α) (r : List α) : L2.atI (a :: r) 0 = some a := by
  simp [L2.atI, L2.ixN]
theorem atI_1 {α : Type} (a b : α) (r : List α) : L2.atI (a :: b :: r) 1 = some b := by
  have h : (1 : Int) < (r.length : Int) + 1 + 1 := by omega
  simp [L2.atI, L2.ixN, h]
theorem atI_nn {α : Type} {xs : List α} {k : Int} (h1 : 0 ≤ k) (h2 : k < xs.length) : ∃ x, L2.atI xs k = some x ∧ x ∈ xs := by
  have e : k.toNat < xs.length := by omega
  exact ⟨xs[k.toNat], by simp [L2.atI, L2.ixN, h1, h2, e], by simp⟩
@[simp] theorem setC_0 (mu : Mu) (b : Nat) (z x y : Int) (h : mu[b]? = some (.lst [.int x, .int y])) : setC mu (.cel b) (.d (.int 0)) (.int z) = some (mu.set b (bx z y)) := by
  simp [setC, h, L2.ixN, bx]
@[simp] theorem setC_1 (mu : Mu) (b : Nat) (z x y : Int) (h : mu[b]? = some (.lst [.int x, .int y])) : setC mu (.cel b) (.d (.int 1)) (.int z) = some (mu.set b (bx x z)) := by
  simp [setC, h, L2.ixN, bx]
@[simp] theorem take_set (mu : Mu) (b : Nat) (c : Cl) : (mu.set b c).take mu.length = mu.set b c := List.take_of_length_le (by simp)
@[simp] theorem take_app (mu r : Mu) : (mu ++ r).take mu.length = mu := by simp
@[simp] theorem get_app (mu : Mu) (c : Cl) : (mu ++ [c])[mu.length]? = some c := by simp
theorem get_bx {mu : Mu} {b : Nat} {x y : Int} (h : mu[b]? = some (bx x y)) (c : Cl) : (mu.set b c)[b]? = some c := by
  have := (List.getElem?_eq_some_iff.mp h).1
  simp [this]
theorem box_v (T v : Int) (h : 0 ≤ v) : ∃ c, L2.atI [D.int 0, D.int v] (if T ≤ v then 1 else 0) = some (.int c) ∧ 0 ≤ c := by
  by_cases g : T ≤ v
  · exact ⟨v, by simp [g, atI_1], h⟩
  · exact ⟨0, by simp [g, atI_0], by omega⟩
theorem pow_v : ∃ T : Int, ∀ mu, fPow mu (.d (.int 10)) (.d (.int 18)) = some (.int T) := ⟨10 ^ 18, fun mu => by rw [fPow_int]; rfl⟩
theorem box_ok (ns : List Int) (k : Int) (mu : Mu) (hk0 : 0 ≤ k) : ∃ x y, M_law_box [.scr ns, .d (.int k)] mu = .ok (.cel mu.length) (mu ++ [bx x y]) ∧ 0 ≤ x ∧ 0 ≤ y := by
  unfold M_law_box m_law_box
  rw [fnM_ap]
  have q : ∀ z : Int, z % 1000000007 < 18446744073709551616 ∧ -18446744073709551616 < z % 1000000007 := fun z => by omega
  have q1 : ∀ z : Int, 0 ≤ z % 2147483647 + 1 := fun z => by omega
  obtain ⟨T, hT⟩ := pow_v
  by_cases h : k < ns.length
  · obtain ⟨v, h1, h2⟩ := atI_nn (xs := ns) (k := k) (by omega) h
    obtain ⟨c, hc, hc0⟩ := box_v T (if v < 0 then -v else v) (by split <;> omega)
    simp [h, h1, hc, q, hT, -fPow_int]
    exact ⟨_, _, rfl, hc0, q1 _⟩
  · by_cases h0 : 0 < ns.length
    · obtain ⟨v, h1, h2⟩ := atI_nn (xs := ns) (k := k % (ns.length : Int)) (Int.emod_nonneg _ (by omega)) (Int.emod_lt_of_pos _ (by omega))
      obtain ⟨c, hc, hc0⟩ := box_v T ((if v < 0 then -v else v) % 1000000007 * 31 + 7919 * k) (by omega)
      simp [h, h0, h1, hc, q, hT, -fPow_int]
      exact ⟨_, _, rfl, hc0, q1 _⟩
    · obtain ⟨c, hc, hc0⟩ := box_v T (7919 * k + 101) (by omega)
      simp [h, h0, hc, q, hT, -fPow_int]
      exact ⟨_, _, rfl, hc0, q1 _⟩
theorem take_ok (b : Nat) (n : Int) (mu : Mu) (hb : Bx mu b) (h0 : 0 < n) (h1 : n < 1073741824) : ∃ r mu', M_law_take [.cel b, .d (.int n)] mu = .ok (.d (.int r)) mu' ∧ Bm mu b mu' ∧ 0 ≤ r ∧ r < n := by
  obtain ⟨x, y, hx, h2, h3⟩ := hb
  unfold M_law_take m_law_take
  rw [fnM_ap]
  have hx' := hx
  unfold bx at hx
  have e1 : ∀ z : Int, 0 ≤ z % n := fun z => Int.emod_nonneg _ (by omega)
  have e2 : ∀ z : Int, z % n < n := fun z => Int.emod_lt_of_pos _ h0
  by_cases h : 0 < x
  · have e3 : 0 ≤ x / n := Int.ediv_nonneg h2 (by omega)
    simp [hx, atI_0, h, h0, h1, setC_0 mu b _ x y hx, e1, e2]
    exact ⟨_, _, ⟨rfl, rfl⟩, ⟨_, _, rfl, e3, h3⟩, e1 _, e2 _⟩
  · have e4 := setC_1 mu b ((y * 39373 + 69621) % 2147483647) x y hx
    have e5 := get_bx hx' (bx x ((y * 39373 + 69621) % 2147483647))
    have e6 : ∀ z : Int, 0 ≤ z % 2147483647 := fun z => by omega
    unfold bx at e4 e5
    simp [hx, atI_0, atI_1, h, h0, h1, e4, e5]
    exact ⟨_, _, ⟨rfl, rfl⟩, ⟨_, _, rfl, h2, e6 _⟩, e1 _, e2 _⟩

/-! ### a value changed at one place -/
def isI : D → Bool
  | .int _ => true
  | _ => false
def nins : D → Bool
  | .ins _ _ _ => false
  | _ => true
theorem isTy_int {x : D} (h : nins x = true) : isTy [] "int" x = some (match x with
  | .int _ => true
  | .bl _ => true
  | _ => false) := by
  cases x <;> first | rfl | cases h
theorem whole_ok {x : D} (mu : Mu) (h : nins x = true) : M_law_whole [.d x] mu = .ok (.d (.bl (isI x))) mu := by
  unfold M_law_whole m_law_whole
  rw [fnM_ap]
  cases x <;> first | (simp [nins] at h; done) | simp [isTy, isI]
theorem due_ok (a b : Bool) (mu : Mu) : M_law_is_due [.d (.bl a), .d (.bl b)] mu = .ok (.d (.bl (a == b))) mu := by
  unfold M_law_is_due m_law_is_due
  rw [fnM_ap]
  cases a <;> cases b <;> simp
theorem Bm.len {mu mu' : Mu} {b : Nat} (h : Bm mu b mu') : mu'.length = mu.length := by
  obtain ⟨x, y, rfl, _⟩ := h
  simp
theorem Bm.tr {mu m1 m2 : Mu} {b : Nat} (h : Bm mu b m1) (h' : Bm m1 b m2) : Bm mu b m2 := by
  obtain ⟨x, y, rfl, _⟩ := h
  obtain ⟨x', y', rfl, h2⟩ := h'
  exact ⟨x', y', by simp, h2⟩
theorem Bm.bx {mu mu' : Mu} {b : Nat} (h : Bm mu b mu') (hb : Bx mu b) : Bx mu' b := by
  obtain ⟨x, y, rfl, h2⟩ := h
  obtain ⟨x', y', e, _⟩ := hb
  exact ⟨x, y, get_bx e _, h2⟩
theorem Bm.rfl {mu : Mu} {b : Nat} (hb : Bx mu b) : Bm mu b mu := by
  obtain ⟨x, y, e, h2⟩ := hb
  refine ⟨x, y, ?_, h2⟩
  have hl := (List.getElem?_eq_some_iff.mp e).1
  apply List.ext_getElem?
  intro i
  by_cases h : b = i
  · subst h; rw [List.getElem?_set_self hl, e]
  · rw [List.getElem?_set_ne h]
theorem Bx.app {mu : Mu} {b : Nat} (hb : Bx mu b) (r : Mu) : Bx (mu ++ r) b := by
  obtain ⟨x, y, e, h2⟩ := hb
  refine ⟨x, y, ?_, h2⟩
  rw [List.getElem?_append_left (List.getElem?_eq_some_iff.mp e).1, e]
theorem Bm.app {mu mu' r : Mu} {b : Nat} (hb : Bx mu b) (h : Bm (mu ++ r) b mu') : ∃ m1, mu' = m1 ++ r ∧ Bm mu b m1 := by
  obtain ⟨x, y, rfl, h2⟩ := h
  obtain ⟨_, _, e, _⟩ := hb
  refine ⟨mu.set b (K02.bx x y), ?_, x, y, by rfl, h2⟩
  rw [List.set_append_left _ _ (List.getElem?_eq_some_iff.mp e).1]
theorem Bm.get {mu mu' : Mu} {b n : Nat} (h : Bm mu b mu') (hn : n ≠ b) : mu'[n]? = mu[n]? := by
  obtain ⟨x, y, rfl, _⟩ := h
  rw [List.getElem?_set_ne (Ne.symm hn)]
theorem take_take {mu mu' : Mu} {b : Nat} (h : Bm mu b mu') : mu'.take mu.length = mu' := List.take_of_length_le (by rw [h.len]; exact Nat.le_refl _)
theorem pick_ok {b : Nat} {xs : List D} {mu : Mu} (hb : Bx mu b) (h0 : 0 < xs.length) (h1 : xs.length < 1073741824) : ∃ d mu', M_law_pick [.cel b, .d (.lst xs)] mu = .ok (.d d) mu' ∧ Bm mu b mu' ∧ d ∈ xs := by
  obtain ⟨r, mu', e, h2, h3, h4⟩ := take_ok b xs.length mu hb (by omega) (by omega)
  obtain ⟨d, e1, h5⟩ := atI_nn h3 h4
  refine ⟨d, mu', ?_, h2, h5⟩
  unfold M_law_pick m_law_pick
  rw [fnM_ap]
  simp [e, e1, take_take h2]
/-- data of k storeys -/
def Lv : Nat → D → Prop
  | 0, d => match d with
    | .non => True
    | .bl _ => True
    | .int i => -(2 ^ 64) < i ∧ i < 2 ^ 64
    | .str s => PyData.strOk s = true ∧ s.length ≤ 1000
    | _ => False
  | k + 1, d => Lv k d ∨ ∃ xs, d = .tup xs ∧ xs.length ≤ 1000 ∧ ∀ x ∈ xs, Lv k x
theorem doks_of : ∀ {xs : List D}, (∀ x ∈ xs, dok x = true) → doks xs = true
  | [], _ => by simp [doks]
  | x :: xs, h => by
    simp only [doks, Bool.and_eq_true]
    exact ⟨h x (by simp), doks_of fun y hy => h y (by simp [hy])⟩
theorem deps_of {k : Nat} : ∀ {xs : List D}, (∀ x ∈ xs, dep x ≤ k) → deps xs ≤ k
  | [], _ => by simp [deps]
  | x :: xs, h => by
    simp only [deps]
    exact Nat.max_le.mpr ⟨h x (by simp), deps_of fun y hy => h y (by simp [hy])⟩
theorem of_doks : ∀ {xs : List D}, doks xs = true → ∀ x ∈ xs, dok x = true
  | y :: xs, h, x, hx => by
    simp only [doks, Bool.and_eq_true] at h
    cases hx with
    | head => exact h.1
    | tail _ hx => exact of_doks h.2 x hx
theorem of_deps {k : Nat} : ∀ {xs : List D}, deps xs ≤ k → ∀ x ∈ xs, dep x ≤ k
  | y :: xs, h, x, hx => by
    simp only [deps] at h
    cases hx with
    | head => omega
    | tail _ hx => exact of_deps (by omega) x hx
/-- what may be compared, of at most k storeys -/
def Ok (k : Nat) (d : D) : Prop := dok d = true ∧ dep d ≤ k
theorem Ok.tup {k : Nat} {xs : List D} (h : ∀ x ∈ xs, Ok k x) : Ok (k + 1) (.tup xs) := by
  refine ⟨?_, ?_⟩
  · simp only [dok]; exact doks_of fun x hx => (h x hx).1
  · simp only [dep]; exact Nat.succ_le_succ (deps_of fun x hx => (h x hx).2)
theorem Ok.lst {k : Nat} {xs : List D} (h : ∀ x ∈ xs, Ok k x) : Ok (k + 1) (.lst xs) := by
  refine ⟨?_, ?_⟩
  · simp only [dok]; exact doks_of fun x hx => (h x hx).1
  · simp only [dep]; exact Nat.succ_le_succ (deps_of fun x hx => (h x hx).2)
theorem Ok.mono {k l : Nat} {d : D} (h : Ok k d) (hl : k ≤ l) : Ok l d := ⟨h.1, Nat.le_trans h.2 hl⟩
theorem Ok.nins {k : Nat} {d : D} (h : Ok k d) : nins d = true := by
  cases d <;> first | rfl | (have := h.1; simp [dok] at this)
theorem Lv.ok : ∀ {k : Nat} {d : D}, Lv k d → Ok k d
  | 0, .non, h => ⟨by simp [dok], by simp [dep]⟩
  | 0, .bl _, h => ⟨by simp [dok], by simp [dep]⟩
  | 0, .int _, h => ⟨by simp [dok], by simp [dep]⟩
  | 0, .str _, h => ⟨by simp only [dok]; exact h.1, by simp [dep]⟩
  | 0, .tup _, h => h.elim
  | 0, .lst _, h => h.elim
  | 0, .ins _ _ _, h => h.elim
  | k + 1, d, .inl h => (Lv.ok h).mono (by omega)
  | k + 1, d, .inr ⟨xs, e, _, h⟩ => by
    subst e
    exact Ok.tup fun x hx => Lv.ok (h x hx)
theorem mem_cut {xs : List D} {lo hi : Option Int} {x : D} (h : x ∈ cutD xs lo hi) : x ∈ xs := List.mem_of_mem_drop (List.mem_of_mem_take h)
theorem len_cut (xs : List D) (lo hi : Option Int) : (cutD xs lo hi).length ≤ xs.length := by
  unfold cutD
  rw [List.length_take, List.length_drop]
  omega
mutual
theorem deq_rfl : ∀ (d : D), dok d = true → deq d d = true
  | .non, _ => by simp [deq]
  | .bl _, _ => by simp [deq]
  | .int _, _ => by simp [deq]
  | .str _, _ => by simp [deq]
  | .tup xs, h => by
    simp only [deq]
    exact deqs_rfl xs (by simpa only [dok] using h)
  | .lst xs, h => by
    simp only [deq]
    exact deqs_rfl xs (by simpa only [dok] using h)
  | .ins _ _ _, h => by simp [dok] at h
theorem deqs_rfl : ∀ (xs : List D), doks xs = true → deqs xs xs = true
  | [], _ => by simp [deqs]
  | x :: xs, h => by
    simp only [doks, Bool.and_eq_true] at h
    simp only [deqs, Bool.and_eq_true]
    exact ⟨deq_rfl x h.1, deqs_rfl xs h.2⟩
end
def zpT : MS := (mSeq (mAsg (mCall 2 M_law_take (mCons (mVar 0) (mCons (mC (.int 8)) mNil))) (gN 4))
    (mSeq (mIfS (mB (mBin (fEq false) (mVar 4) (mC (.int 0))))
    (mRet (mCB fList (mCons (mVar 1) mNil)))
    mSkip)
    (mSeq (mIfS (mB (mBin (fEq false) (mVar 4) (mC (.int 1))))
    (mRet (mBin fAdd (mSl fSlA (mVar 1) mNoP (mPart (mVar 3))) (mSl fSlA (mVar 1) (mPart (mBin fAdd (mVar 3) (mC (.int 1)))) mNoP)))
    mSkip)
    (mSeq (mIfS (mB (mBin (fEq false) (mVar 4) (mC (.int 2))))
    (mRet (mBin fAdd (mBin fAdd (mSl fSlA (mVar 1) mNoP (mPart (mVar 3))) (mSl fSlA (mVar 1) (mPart (mVar 3)) (mPart (mBin fAdd (mVar 3) (mC (.int 1)))))) (mSl fSlA (mVar 1) (mPart (mVar 3)) mNoP)))
    mSkip)
    (mSeq (mIfS (mB (mBin (fEq false) (mVar 4) (mC (.int 3))))
    (mRet (mBin fAdd (mSl fSlA (mVar 1) (mPart (mVar 3)) mNoP) (mSl fSlA (mVar 1) mNoP (mPart (mVar 3)))))
    mSkip)
    (mSeq (mIfS (mB (mBin (fEq false) (mVar 4) (mC (.int 4))))
    (mRet (mBin fAdd (mVar 1) (mTup (mCons (mTup mNil) mNil))))
    mSkip)
    (mSeq (mIfS (mB (mBin (fEq false) (mVar 4) (mC (.int 5))))
    (mRet (mBin fAdd (mBin fAdd (mSl fSlA (mVar 1) mNoP (mPart (mVar 3))) (mTup (mCons (mC (.int 0)) mNil))) (mSl fSlA (mVar 1) (mPart (mVar 3)) mNoP)))
    mSkip)
    (mSeq (mIfS (mB (mBin (fEq false) (mVar 4) (mC (.int 6))))
    (mRet (mBin fAdd (mSl fSlA (mVar 1) mNoP (mPart (mUn fNeg (mC (.int 1))))) (mSl fSlA (mVar 1) mNoP (mPart (mC (.int 1))))))
    mSkip)
    (mRet (mC .non))))))))))
def zpX : MS := (mSeq (mIfS (mB (mIsi [] "str" (mVar 1)))
    (mRet (mCall 2 M_law_pick (mCons (mVar 0) (mCons (mLst (mCons (mBin fAdd (mVar 1) (mC (.str "b"))) (mCons (mC (.str "")) (mCons (mSl fSlA (mVar 1) (mPart (mC (.int 1))) mNoP) (mCons (mBin fAdd (mC (.str "a")) (mVar 1)) (mCons (mC (.int 0)) mNil)))))) mNil))))
    mSkip)
    (mSeq (mIfS (mB (mCall 1 M_law_whole (mCons (mVar 1) mNil)))
    (mRet (mCall 2 M_law_pick (mCons (mVar 0) (mCons (mLst (mCons (mBin fAdd (mVar 1) (mC (.int 1))) (mCons (mBin fSub (mVar 1) (mC (.int 1))) (mCons (mBin fGt (mVar 1) (mC (.int 0))) (mCons (mBin fSub (mUn fNeg (mC (.int 1))) (mVar 1)) (mCons (mTup (mCons (mVar 1) mNil)) (mCons (mC .non) (mCons (mCB fStr (mCons (mVar 1) mNil)) (mCons (mBin fAdd (mVar 1) (mC (.int 16))) mNil))))))))) mNil))))
    mSkip)
    (mRet (mCall 2 M_law_pick (mCons (mVar 0) (mCons (mLst (mCons (mC (.int 0)) (mCons (mTup mNil) (mCons (mC (.str "none")) mNil)))) mNil))))))
theorem sp_is (F : List Ar → Mu → R Ar) : m_law_spoilt F = mSeq (mIfS (mB (mIsi [] "tuple" (mVar 1)))
    (mSeq (mAsg (mCall 2 M_law_take (mCons (mVar 0) (mCons (mBin fAdd (mCB fLen (mCons (mVar 1) mNil)) (mC (.int 1))) mNil))) (gN 3))
    (mSeq (mIfS (mAnd (mB (mBin (fEq true) (mVar 1) (mTup mNil))) (mAnd (mB (mBin fGt (mVar 2) (mC (.int 0)))) (mB (mBin fGt (mCall 2 M_law_take (mCons (mVar 0) (mCons (mC (.int 5)) mNil))) (mC (.int 0))))))
    (mSeq (mAsg (mBin fMod (mCB fInt (mCons (mVar 3) mNil)) (mCB fLen (mCons (mVar 1) mNil))) (gN 3))
    (mRet (mBin fAdd (mBin fAdd (mSl fSlA (mVar 1) mNoP (mPart (mVar 3))) (mTup (mCons (mCall 3 F (mCons (mVar 0) (mCons (mBin fIx (mVar 1) (mVar 3)) (mCons (mBin fSub (mVar 2) (mC (.int 1))) mNil)))) mNil))) (mSl fSlA (mVar 1) (mPart (mBin fAdd (mVar 3) (mC (.int 1)))) mNoP))))
    mSkip)
    zpT))
    mSkip) zpX := rfl
theorem zpT_ok {b : Nat} {w : Int} {k : Nat} {xs : List D} {deep : Int} {mu : Mu} (hb : Bx mu b) (hl : xs.length ≤ 1000) (hx : ∀ x ∈ xs, Lv k x) : ∃ r mu', zpT [some (.cel b), some (.d (.tup xs)), some (.d (.int deep)), some (.d (.int w)), none] mu = .rt (.d r) mu' ∧ Bm mu b mu' ∧ Ok (k + 2) r := by
  obtain ⟨q, mu', e, h2, h3, h4⟩ := take_ok b 8 mu hb (by omega) (by omega)
  have P : ∀ lo hi, ∀ x ∈ cutD xs lo hi, Ok (k + 1) x := fun lo hi x h => (hx x (mem_cut h)).ok.mono (by omega)
  have L1 : ∀ lo hi, (cutD xs lo hi).length ≤ 1000 := fun lo hi => Nat.le_trans (len_cut xs lo hi) hl
  have L2 : ∀ a c d e, (cutD xs a c).length + (cutD xs d e).length ≤ 16777216 := fun a c d e => by
    have := L1 a c; have := L1 d e; omega
  have L3 : ∀ a c d e f g, (cutD xs a c).length + (cutD xs d e).length + (cutD xs f g).length ≤ 16777216 := fun a c d e f g => by
    have := L1 a c; have := L1 d e; have := L1 f g; omega
  have L4 : ∀ a c d e, (cutD xs a c).length + 1 + (cutD xs d e).length ≤ 16777216 := fun a c d e => by
    have := L1 a c; have := L1 d e; omega
  have L5 : ∀ a c, (cutD xs a c).length ≤ 16777215 := fun a c => by
    have := L1 a c; omega
  have L6 : xs.length ≤ 16777215 := by omega
  have Pn : Ok (k + 1) (.tup []) := Ok.mono (Ok.tup (k := 0) (by simp)) (by omega)
  have Pz : Ok (k + 1) (.int 0) := ⟨by simp [dok], by simp [dep]⟩
  have Px : ∀ x ∈ xs, Ok (k + 1) x := fun x h => (hx x h).ok.mono (by omega)
  have hq : q = 0 ∨ q = 1 ∨ q = 2 ∨ q = 3 ∨ q = 4 ∨ q = 5 ∨ q = 6 ∨ q = 7 := by omega
  unfold zpT
  rcases hq with rfl | rfl | rfl | rfl | rfl | rfl | rfl | rfl
  · simp [e]
    exact ⟨_, _, ⟨rfl, rfl⟩, h2, Ok.lst Px⟩
  · simp [e, L2]
    refine ⟨_, _, ⟨rfl, rfl⟩, h2, Ok.tup fun x hx => ?_⟩
    rcases List.mem_append.mp hx with h | h <;> exact P _ _ _ h
  · simp [e, L2, L3]
    refine ⟨_, _, ⟨rfl, rfl⟩, h2, Ok.tup fun x hx => ?_⟩
    simp at hx
    rcases hx with h | h | h <;> exact P _ _ _ h
  · simp [e, L2]
    refine ⟨_, _, ⟨rfl, rfl⟩, h2, Ok.tup fun x hx => ?_⟩
    rcases List.mem_append.mp hx with h | h <;> exact P _ _ _ h
  · simp [e, L6]
    refine ⟨_, _, ⟨rfl, rfl⟩, h2, Ok.tup fun x hx => ?_⟩
    simp at hx
    rcases hx with h | h
    · exact Px _ h
    · exact h ▸ Pn
  · simp [e, L4, L5]
    refine ⟨_, _, ⟨rfl, rfl⟩, h2, Ok.tup fun x hx => ?_⟩
    simp at hx
    rcases hx with h | h | h
    · exact P _ _ _ h
    · exact h ▸ Pz
    · exact P _ _ _ h
  · simp [e, L2]
    refine ⟨_, _, ⟨rfl, rfl⟩, h2, Ok.tup fun x hx => ?_⟩
    simp at hx
    rcases hx with h | h <;> exact P _ _ _ h
  · simp [e]
    exact ⟨_, _, ⟨rfl, rfl⟩, h2, by simp [dok], by simp [dep]⟩

theorem Lv.mono : ∀ {k l : Nat} {d : D}, Lv k d → k ≤ l → Lv l d
  | k, 0, d, h, e => by
    have : k = 0 := by omega
    subst this
    exact h
  | k, l + 1, d, h, e => by
    by_cases q : k = l + 1
    · subst q; exact h
    · exact .inl (Lv.mono h (by omega))
theorem Lv.cs : ∀ {k : Nat} {d : D}, Lv k d → Lv 0 d ∨ ∃ l xs, k = l + 1 ∧ d = .tup xs ∧ xs.length ≤ 1000 ∧ ∀ x ∈ xs, Lv l x
  | 0, d, h => .inl h
  | k + 1, d, .inr ⟨xs, h⟩ => .inr ⟨k, xs, rfl, h⟩
  | k + 1, d, .inl h => by
    rcases Lv.cs h with h | ⟨l, xs, e, h1, h2, h3⟩
    · exact .inl h
    · exact .inr ⟨k, xs, rfl, h1, h2, fun x hx => (h3 x hx).mono (by omega)⟩
theorem strOk_of (s : String) : PyData.strOk (Str.ofString s) = true := by
  unfold PyData.strOk
  rw [PySem.Str.ofString_eq_toList]
  simp
  intro c hc
  have := c.valid
  rcases this with h | h
  · exact Nat.lt_trans h (by decide)
  · exact h.2
theorem strOk_app {a b : Str} (h1 : PyData.strOk a = true) (h2 : PyData.strOk b = true) : PyData.strOk (a ++ b) = true := by
  unfold PyData.strOk at *
  show (a.cps ++ b.cps).all _ = true
  rw [Array.all_append, h1, h2]; rfl
theorem strOk_cut {a : Str} (lo hi : Option Int) (h1 : PyData.strOk a = true) : PyData.strOk (L2.cutS a lo hi) = true := by
  unfold PyData.strOk L2.cutS at *
  simp at *
  intro x hx
  have h := List.mem_of_mem_drop (List.mem_of_mem_take hx)
  obtain ⟨i, hi, e⟩ := List.getElem_of_mem h
  rw [← e]
  simpa using h1 i (by simpa using hi)
theorem log_ok {i : Int} (h1 : -(2 ^ 64) < i) (h2 : i < 2 ^ 64) : i.natAbs.log2 < 1920 := by
  by_cases h : i.natAbs = 0
  · rw [h]; simp
  · have : i.natAbs.log2 < 64 := (Nat.log2_lt h).mpr (by omega)
    omega
theorem zpX_ok {b : Nat} {w e : Option Ar} {v : D} {deep : Int} {mu : Mu} (hb : Bx mu b) (hx : Lv 0 v) : ∃ r mu', zpX [some (.cel b), some (.d v), some (.d (.int deep)), w, e] mu = .rt (.d r) mu' ∧ Bm mu b mu' ∧ Ok 1 r := by
  unfold zpX
  have hw := whole_ok (x := v) mu (hx.ok.nins)
  cases v with
  | non =>
    obtain ⟨d, mu', e, h2, h3⟩ := pick_ok (xs := [.int 0, .tup [], .str "none"]) hb (by simp) (by simp)
    have q : ∀ x ∈ [D.int 0, .tup [], .str "none"], Ok 1 x := by
      simp [Ok, dok, dep, deps, doks]; exact strOk_of "none"
    simp [isTy, hw, isI, e]
    exact ⟨_, _, ⟨rfl, rfl⟩, h2, q _ h3⟩
  | bl c =>
    obtain ⟨d, mu', e, h2, h3⟩ := pick_ok (xs := [.int 0, .tup [], .str "none"]) hb (by simp) (by simp)
    have q : ∀ x ∈ [D.int 0, .tup [], .str "none"], Ok 1 x := by
      simp [Ok, dok, dep, deps, doks]; exact strOk_of "none"
    simp [isTy, hw, isI, e]
    exact ⟨_, _, ⟨rfl, rfl⟩, h2, q _ h3⟩
  | int i =>
    obtain ⟨d, mu', e, h2, h3⟩ := pick_ok (xs := [.int (i + 1), .int (i - 1), .bl (decide (0 < i)), .int (-1 - i), .tup [.int i], .non, .str (Str.ofString i.repr), .int (i + 16)]) hb (by simp) (by simp)
    have q : ∀ x ∈ [D.int (i + 1), .int (i - 1), .bl (decide (0 < i)), .int (-1 - i), .tup [.int i], .non, .str (Str.ofString i.repr), .int (i + 16)], Ok 1 x := by
      simp [Ok, dok, dep, deps, doks]; exact strOk_of _
    have hl := log_ok hx.1 hx.2
    simp [isTy, hw, isI, e, hl]
    exact ⟨_, _, ⟨rfl, rfl⟩, h2, q _ h3⟩
  | str s =>
    obtain ⟨d, mu', e, h2, h3⟩ := pick_ok (xs := [.str (s ++ "b"), .str "", .str (L2.cutS s (some 1) none), .str ("a" ++ s), .int 0]) hb (by simp) (by simp)
    have q : ∀ x ∈ [D.str (s ++ "b"), .str "", .str (L2.cutS s (some 1) none), .str ("a" ++ s), .int 0], Ok 1 x := by
      have s1 := strOk_app hx.1 (strOk_of "b")
      have s2 := strOk_app (strOk_of "a") hx.1
      have s3 := strOk_cut (some 1) none hx.1
      have s4 := strOk_of ""
      simp [Ok, dok, dep, deps, doks]; exact ⟨s1, s4, s3, s2⟩
    have h5 : s.length + Str.length "b" ≤ 16777216 := by
      have := hx.2
      have : Str.length "b" = 1 := by decide
      omega
    have h6 : Str.length "a" + s.length ≤ 16777216 := by
      have := hx.2
      have : Str.length "a" = 1 := by decide
      omega
    have h7 : s.length ≤ 16777216 := by
      have := hx.2
      omega
    simp [isTy, hw, isI, h5, h6, h7, e]
    exact ⟨_, _, ⟨rfl, rfl⟩, h2, q _ h3⟩
  | tup xs => exact hx.elim
  | lst xs => exact hx.elim
  | ins C ks xs => exact hx.elim

theorem deq_nil (xs : List D) : deq (.tup xs) (.tup []) = xs.isEmpty := by
  cases xs <;> simp [deq, deqs]
theorem spoilt_ok : ∀ (n k : Nat) (v : D) (deep : Int) (mu : Mu) (b : Nat), Lv k v → k ≤ 60 → 0 ≤ deep → deep < n → Bx mu b → ∃ r mu', M_law_spoilt n [.cel b, .d v, .d (.int deep)] mu = .ok (.d r) mu' ∧ Bm mu b mu' ∧ Ok (k + 1) r
  | 0, k, v, deep, mu, b, _, _, h0, h1, _ => by omega
  | n + 1, k, v, deep, mu, b, hv, hk, h0, h1, hb => by
    rcases hv.cs with h | ⟨l, xs, rfl, rfl, hl, hx⟩
    · obtain ⟨r, mu', e, h2, h3⟩ := zpX_ok (w := none) (e := none) (deep := deep) hb h
      refine ⟨r, mu', ?_, h2, h3.mono (by omega)⟩
      show fnM 5 (m_law_spoilt (M_law_spoilt n)) _ mu = _
      rw [fnM_ap, sp_is]
      cases v <;> first | (exact h.elim) | simp [isTy, e, take_take h2]
    · have hok : Ok (l + 1) (.tup xs) := Ok.tup fun x h => (hx x h).ok
      obtain ⟨w, m1, e1, b1, w0, w1⟩ := take_ok b (xs.length + 1) mu hb (by omega) (by omega)
      have hb1 := b1.bx hb
      have hE : ∀ mu, fEq true mu (.d (.tup xs)) (.d (.tup [])) = some (.bl (!xs.isEmpty)) := fun mu => by
        rw [fEq_d mu true hok.1 (by simp [dok, doks]) (by have := hok.2; omega) (by simp [dep, deps]), deq_nil]
        simp
      show ∃ r mu', fnM 5 (m_law_spoilt (M_law_spoilt n)) [.cel b, .d (.tup xs), .d (.int deep)] mu = .ok (.d r) mu' ∧ Bm mu b mu' ∧ Ok (l + 1 + 1) r
      rw [fnM_ap, sp_is]
      have tl : ∀ m2, Bm mu b m2 → ∃ r mu', zpT [some (.cel b), some (.d (.tup xs)), some (.d (.int deep)), some (.d (.int w)), none] m2 = .rt (.d r) mu' ∧ Bm mu b mu' ∧ Ok (l + 2) r := fun m2 hm => by
        obtain ⟨r, mu', e, h2, h3⟩ := zpT_ok (w := w) (deep := deep) (hm.bx hb) hl hx
        exact ⟨r, mu', e, hm.tr h2, h3⟩
      by_cases hne : xs = []
      · obtain ⟨r, mu', e, h2, h3⟩ := tl m1 b1
        refine ⟨r, mu', ?_, h2, h3⟩
        subst hne
        simp at e1 hE
        simp [isTy, e1, hE, e, take_take h2]
      · have hne' : xs.isEmpty = false := by cases xs <;> simp_all
        by_cases hd : 0 < deep
        · obtain ⟨q, m2, e2, b2, q0, q1⟩ := take_ok b 5 m1 hb1 (by omega) (by omega)
          have b02 := b1.tr b2
          by_cases hq : 0 < q
          · have hlen : 0 < xs.length := by cases xs <;> simp_all
            obtain ⟨x, ex, hxm⟩ := atI_nn (xs := xs) (k := w % xs.length) (Int.emod_nonneg _ (by omega)) (Int.emod_lt_of_pos _ (by omega))
            obtain ⟨r, m3, e3, b3, ok3⟩ := spoilt_ok n l x (deep - 1) m2 b (hx x hxm) (by omega) (by omega) (by omega) (b02.bx hb)
            have L1 : ∀ lo hi, (cutD xs lo hi).length ≤ 1000 := fun lo hi => Nat.le_trans (len_cut xs lo hi) hl
            have L4 : ∀ a c d e, (cutD xs a c).length + 1 + (cutD xs d e).length ≤ 16777216 := fun a c d e => by
              have := L1 a c; have := L1 d e; omega
            have L5 : ∀ a c, (cutD xs a c).length ≤ 16777215 := fun a c => by
              have := L1 a c; omega
            simp [isTy, e1, hE, hne', hd, e2, hq, hlen, ex, e3, L4, L5, take_take (b02.tr b3)]
            refine ⟨_, _, ⟨rfl, rfl⟩, b02.tr b3, Ok.tup fun y hy => ?_⟩
            simp at hy
            rcases hy with h | h | h
            · exact (hx y (mem_cut h)).ok.mono (by omega)
            · exact h ▸ ok3
            · exact (hx y (mem_cut h)).ok.mono (by omega)
          · obtain ⟨r, mu', e, h2, h3⟩ := tl m2 b02
            refine ⟨r, mu', ?_, h2, h3⟩
            simp [isTy, e1, hE, hne', hd, e2, hq, e, take_take h2]
        · obtain ⟨r, mu', e, h2, h3⟩ := tl m1 b1
          refine ⟨r, mu', ?_, h2, h3⟩
          simp [isTy, e1, hE, hne', hd, e, take_take h2]
end K02
namespace K02
open PySem Dw
/-! ### the forms -/
def isW (lo hi : Int) : D → Bool
  | .int i => decide (lo ≤ i) && decide (i ≤ hi)
  | _ => false
def isT (lo hi : Int) : D → Bool
  | .tup xs => decide (lo ≤ xs.length) && decide ((xs.length : Int) ≤ hi)
  | _ => false
def isR (n lo hi : Int) : D → Bool
  | .tup xs => decide ((xs.length : Int) = n) && xs.all (isW lo hi)
  | _ => false
def isTab (L : Int) : D → Bool
  | .tup rs => (decide (1 ≤ (rs.length : Int)) && decide ((rs.length : Int) ≤ 12)) && rs.all (isR L (-1) (rs.length - 1))
  | _ => false
def isRow (L : Int) : D → Bool
  | .tup xs => xs.all (isW 0 (L - 1))
  | _ => false
theorem integer_ok {x : D} (mu : Mu) (h : nins x = true) : M_is_integer [.d x] mu = .ok (.d (.bl (isI x))) mu := by
  unfold M_is_integer m_is_integer
  rw [fnM_ap]
  cases x <;> first | (simp [nins] at h; done) | simp [isTy, isI]
theorem within_ok {x : D} (lo hi : Int) (mu : Mu) (h : nins x = true) : M_is_within [.d x, .d (.int lo), .d (.int hi)] mu = .ok (.d (.bl (isW lo hi x))) mu := by
  unfold M_is_within m_is_within
  rw [fnM_ap]
  have e := integer_ok mu h
  cases x with
  | int i =>
    by_cases h1 : lo ≤ i
    · simp [e, isI, isW, h1]
    · simp [e, isI, isW, h1]
  | _ => simp [e, isI, isW]
theorem tuple_ok {x : D} (lo hi : Int) (mu : Mu) (h : nins x = true) : M_is_tuple [.d x, .d (.int lo), .d (.int hi)] mu = .ok (.d (.bl (isT lo hi x))) mu := by
  unfold M_is_tuple m_is_tuple
  rw [fnM_ap]
  cases x with
  | tup xs =>
    by_cases h1 : lo ≤ xs.length
    · simp [isTy, isT, h1]
    · simp [isTy, isT, h1]
  | ins C ks xs => simp [nins] at h
  | _ => simp [isTy, isT]
theorem nins_of {x : D} (h : dok x = true) : nins x = true := by
  cases x <;> first | rfl | simp [dok] at h
theorem dok_tup {xs : List D} (h : dok (.tup xs) = true) : ∀ x ∈ xs, dok x = true := of_doks (by simpa only [dok] using h)
theorem lenL {xs : List D} (h : isT 0 16777216 (.tup xs) = true) : xs.length ≤ 16777216 := by
  simp [isT] at h
  omega
theorem are_ok {x : D} (n lo hi : Int) (mu : Mu) (h : dok x = true) (hn : n ≤ 16777216) : M_are_within [.d x, .d (.int n), .d (.int lo), .d (.int hi)] mu = .ok (.d (.bl (isR n lo hi x))) mu := by
  unfold M_are_within m_are_within
  rw [fnM_ap]
  have e := tuple_ok n n mu (nins_of h)
  cases x with
  | tup xs =>
    by_cases h1 : (xs.length : Int) = n
    · have e2 : isT n n (.tup xs) = true := by simp [isT]; omega
      have q := lc_map (vs := [4]) (i := mItT (mVar 0)) (t := gN 4) (me := mCall 3 M_is_within (mCons (mVar 4) (mCons (mVar 2) (mCons (mVar 3) mNil)))) (g := [some (.d (.tup xs)), some (.d (.int n)), some (.d (.int lo)), some (.d (.int hi)), none]) (mu := mu) (mu1 := mu) (ds := xs) (by simp) (fun d => .bl (isW lo hi d)) (by omega) fun d hd acc => by
        refine ⟨_, rfl, ?_⟩
        simp [wipeG, within_ok lo hi (mu ++ [.lst acc]) (nins_of (dok_tup h d hd))]
      simp [e, e2, q, isR, h1]
    · have e2 : isT n n (.tup xs) = false := by
        simp [isT]; omega
      simp [e, e2, isR, h1]
  | _ => simp [e, isT, isR]
theorem row_ok {x : D} (L : Int) (mu : Mu) (h : dok x = true) (hl : ∀ xs, x = .tup xs → xs.length ≤ 16777216) : M_is_row [.d x, .d (.int L)] mu = .ok (.d (.bl (isRow L x))) mu := by
  unfold M_is_row m_is_row
  rw [fnM_ap]
  cases x with
  | tup xs =>
    have q := lc_map (vs := [2]) (i := mItT (mVar 0)) (t := gN 2) (me := mCall 3 M_is_within (mCons (mVar 2) (mCons (mC (.int 0)) (mCons (mBin fSub (mVar 1) (mC (.int 1))) mNil)))) (g := [some (.d (.tup xs)), some (.d (.int L)), none]) (mu := mu) (mu1 := mu) (ds := xs) (by simp) (fun d => .bl (isW 0 (L - 1) d)) (hl xs rfl) fun d hd acc => by
      refine ⟨_, rfl, ?_⟩
      simp [wipeG, within_ok 0 (L - 1) (mu ++ [.lst acc]) (nins_of (dok_tup h d hd))]
    simp [isTy, q, isRow]
  | ins C ks xs => simp [dok] at h
  | _ => simp [isTy, isRow]
theorem table_is_ok {x : D} (L : Int) (mu : Mu) (h : dok x = true) (hL : L ≤ 1000) : M_is_table [.d x, .d (.int L)] mu = .ok (.d (.bl (isTab L x))) mu := by
  unfold M_is_table m_is_table
  rw [fnM_ap]
  have e := tuple_ok 1 12 mu (nins_of h)
  cases x with
  | tup xs =>
    by_cases h1 : 1 ≤ (xs.length : Int) ∧ (xs.length : Int) ≤ 12
    · have e2 : isT 1 12 (.tup xs) = true := by simp [isT]; omega
      have q := lc_map (vs := [2]) (i := mItT (mVar 0)) (t := gN 2) (me := mCall 4 M_are_within (mCons (mVar 2) (mCons (mVar 1) (mCons (mUn fNeg (mC (.int 1))) (mCons (mBin fSub (mCB fLen (mCons (mVar 0) mNil)) (mC (.int 1))) mNil))))) (g := [some (.d (.tup xs)), some (.d (.int L)), none]) (mu := mu) (mu1 := mu) (ds := xs) (by simp) (fun d => .bl (isR L (-1) (xs.length - 1) d)) (by omega) fun d hd acc => by
        refine ⟨_, rfl, ?_⟩
        simp [wipeG, are_ok L (-1) (xs.length - 1) (mu ++ [.lst acc]) (dok_tup h d hd) (by omega)]
      have h2 : decide (1 ≤ (xs.length : Int)) = true := by simp; omega
      have h3 : decide ((xs.length : Int) ≤ 12) = true := by simp; omega
      simp only [isTab, h2, h3]
      simp [e, e2, q]
    · have e2 : isT 1 12 (.tup xs) = false := by
        simp [isT]; omega
      have e3 : isTab L (.tup xs) = false := by
        have e4 : (decide (1 ≤ (xs.length : Int)) && decide ((xs.length : Int) ≤ 12)) = false := e2
        show ((decide (1 ≤ (xs.length : Int)) && decide ((xs.length : Int) ≤ 12)) && xs.all (isR L (-1) (xs.length - 1))) = false
        rw [e4]; rfl
      simp [e, e2, e3]
  | _ => simp [e, isT, isTab]

theorem forL_all {t : MG} {b : MS} {m : Mu} (p : D → Bool) (r : Ar) (I : Gm → Prop) : ∀ (ds : List D) (g : Gm), I g → (∀ d ∈ ds, ∀ g, I g → ∃ g1, t (.d d) g = some g1 ∧ (p d = true → ∃ g2, b g1 m = .nx g2 m ∧ I g2) ∧ (p d = false → b g1 m = .rt r m)) → (ds.all p = true → ∃ g2, forL t b ds g m = .nx g2 m ∧ I g2) ∧ (ds.all p = false → forL t b ds g m = .rt r m)
  | [], g, h, _ => ⟨fun _ => ⟨g, by simp, h⟩, fun h => by simp at h⟩
  | d :: ds, g, h, k => by
    obtain ⟨g1, h1, h2, h3⟩ := k d (by simp) g h
    rw [forL_cons, h1]
    cases hp : p d with
    | true =>
      obtain ⟨g2, e, i⟩ := h2 hp
      dsimp only
      rw [e]
      have := forL_all (t := t) (b := b) p r I ds g2 i fun d hd => k d (by simp [hd])
      simpa [hp] using this
    | false =>
      dsimp only
      rw [h3 hp]
      simp [hp]
theorem Ok.mem {k : Nat} {xs : List D} (h : Ok (k + 1) (.tup xs)) : ∀ x ∈ xs, Ok k x := fun x hx => by
  refine ⟨dok_tup h.1 x hx, ?_⟩
  have := h.2
  simp only [dep] at this
  exact of_deps (by omega) x hx
theorem law_table_is_ok {x : D} (L : Int) (mu : Mu) (h : Ok 60 x) (hL : L ≤ 1000) : M_law_is_table [.d x, .d (.int L)] mu = .ok (.d (.bl (isTab L x))) mu := by
  unfold M_law_is_table m_law_is_table
  rw [fnM_ap]
  cases x with
  | tup xs =>
    by_cases h1 : (xs.length : Int) < 1
    · have : isTab L (.tup xs) = false := by
        have e : decide (1 ≤ (xs.length : Int)) = false := by simp; omega
        simp [isTab]; omega
      simp [isTy, h1, this]
    · by_cases h2 : (12 : Int) < xs.length
      · have : isTab L (.tup xs) = false := by
          simp [isTab]; omega
        simp [isTy, h1, h2, this]
      · have e : isTab L (.tup xs) = xs.all (isR L (-1) (xs.length - 1)) := by
          have h3 : decide (1 ≤ (xs.length : Int)) = true := by simp; omega
          have h4 : decide ((xs.length : Int) ≤ 12) = true := by simp; omega
          simp only [isTab, h3, h4]; rfl
        have q := forL_all (t := gN 2) (b := (mSeq (mIfS (mOr (mNot (mB (mIsi [] "tuple" (mVar 2)))) (mB (mBin (fEq true) (mCB fLen (mCons (mVar 2) mNil)) (mVar 1))))
    (mRet (mC (.bl false)))
    mSkip)
    (mIfS (mB (mBin (fEq true) (mLc [3] (mItT (mVar 2)) (gN 3) (mOr (mNot (mB (mCall 1 M_law_whole (mCons (mVar 3) mNil)))) (mOr (mB (mBin fLt (mVar 3) (mUn fNeg (mC (.int 1))))) (mB (mBin fGe (mVar 3) (mCB fLen (mCons (mVar 0) mNil)))))) (mVar 3)) (mLst mNil)))
    (mRet (mC (.bl false)))
    mSkip))) (m := mu) (isR L (-1) (xs.length - 1)) (.d (.bl false)) (fun g => ∃ a, g = [some (.d (.tup xs)), some (.d (.int L)), a, none]) xs _ ⟨none, rfl⟩ fun d hd g ⟨a, hg⟩ => by
          subst hg
          refine ⟨_, rfl, ?_⟩
          have hod := h.mem (k := 59) d hd
          cases d with
          | tup ys =>
            by_cases hy : (ys.length : Int) = L
            · have q := lc_pure (vs := [3]) (i := mItT (mVar 2)) (t := gN 3) (mt := (mOr (mNot (mB (mCall 1 M_law_whole (mCons (mVar 3) mNil)))) (mOr (mB (mBin fLt (mVar 3) (mUn fNeg (mC (.int 1))))) (mB (mBin fGe (mVar 3) (mCB fLen (mCons (mVar 0) mNil))))))) (me := mVar 3) (g := [some (.d (.tup xs)), some (.d (.int L)), some (.d (.tup ys)), none]) (mu := mu) (mu1 := mu) (ds := ys) (by simp) (fun d => !isW (-1) (xs.length - 1) d) id (by omega) fun d hd acc => by
                refine ⟨_, rfl, ?_, fun _ => ?_⟩
                · have e := whole_ok (x := d) (mu ++ [.lst acc]) (nins_of (dok_tup hod.1 d hd))
                  cases d with
                  | int i =>
                    simp [wipeG, e, isI, isW]
                    by_cases g1 : i < -1
                    · simp [g1] <;> omega
                    · by_cases g2 : (xs.length : Int) ≤ i
                      · simp [g1, g2] <;> omega
                      · simp [g1, g2] <;> omega
                  | _ => simp [wipeG, e, isI, isW]
                · simp [wipeG]
              have hf : ∀ mu, fEq true mu (.d (.lst (ys.filter fun d => !isW (-1) (xs.length - 1) d))) (.d (.lst [])) = some (.bl (!(ys.filter fun d => !isW (-1) (xs.length - 1) d).isEmpty)) := fun mu => by
                have ok : Ok 59 (.lst (ys.filter fun d => !isW (-1) (xs.length - 1) d)) := Ok.lst fun z hz => hod.mem (k := 58) z (List.mem_filter.mp hz).1
                rw [fEq_d mu true ok.1 (by simp [dok, doks]) (by have := ok.2; omega) (by simp [dep, deps])]
                cases (ys.filter fun d => !isW (-1) (xs.length - 1) d) <;> simp [deq, deqs]
              have ha : (ys.filter fun d => !isW (-1) (xs.length - 1) d).isEmpty = ys.all (isW (-1) (xs.length - 1)) := by
                rw [Bool.eq_iff_iff]
                simp
              constructor
              · intro hp
                simp [isR, hy] at hp
                have hb : ys.all (isW (-1) (xs.length - 1)) = true := by simpa using hp
                rw [hb] at ha
                rw [ha] at hf
                exact ⟨_, by simp [isTy, hy, q, hf]; rfl, _, rfl⟩
              · intro hp
                have hb : ys.all (isW (-1) (xs.length - 1)) = false := by
                  simpa [isR, hy] using hp
                rw [hb] at ha
                rw [ha] at hf
                simp [isTy, hy, q, hf]
            · constructor
              · intro hp; simp [isR, hy] at hp
              · intro _; simp [isTy, hy]
          | ins C ks xs => have := hod.1; simp [dok] at this
          | _ =>
            constructor
            · intro hp; simp [isR] at hp
            · intro _; simp [isTy]
        cases ha : xs.all (isR L (-1) (xs.length - 1)) with
        | true =>
          obtain ⟨g2, e2, _⟩ := q.1 ha
          simp [isTy, h1, h2, e2, e, ha]
        | false =>
          have e2 := q.2 ha
          simp [isTy, h1, h2, e2, e, ha]
  | ins C ks xs => have := h.1; simp [dok] at this
  | _ => simp [isTy, isTab]
end K02
namespace K02
open PySem Dw
/-! ### machines -/
def mach (L : Int) (v : D) : D := .ins "Machine" ["letters", "table"] [.int L, v]
theorem s1 : (("letters" : Str) = "table") = False := by simp; decide
theorem s2 : (("table" : Str) == "letters") = false := by decide
theorem s3 : inF ["letters", "table"] "after" = false := by decide
theorem s4 : (("InvalidTable" : Str) = "InvalidNumber") = False := by simp; decide
theorem s5 : (("InvalidRow" : Str) = "InvalidNumber") = False := by simp; decide
theorem s6 : (("InvalidRow" : Str) = "InvalidTable") = False := by simp; decide
theorem set_last (m : Mu) (c c' : Cl) : (m ++ [c]).set m.length c' = m ++ [c'] := by
  rw [List.set_append_right _ _ (Nat.le_refl _)]; simp
theorem take_sn (m : Mu) (c : Cl) : (m ++ [c]).take (m.length + 1) = m ++ [c] := List.take_of_length_le (by simp)
theorem init_ok {L : Int} {v : D} (m : Mu) (h : dok v = true) (h1 : 1 ≤ L) (h3 : L ≤ 3) (ht : isTab L v = true) : M_Machine_init [.cel m.length, .d (.int L), .d v] (m ++ [.ins "Machine" [] []]) = .ok (.d .non) (m ++ [.ins "Machine" ["letters", "table"] [.int L, v]]) := by
  unfold M_Machine_init m_Machine_init
  rw [fnM_ap]
  have e1 := within_ok (x := .int L) 1 3 (m ++ [.ins "Machine" [] []]) rfl
  have e2 := table_is_ok L (m ++ [.ins "Machine" [] []]) h (by omega)
  have e3 : isW 1 3 (.int L) = true := by simp [isW, h1, h3]
  simp [e1, e2, e3, ht, putK, s1, set_last, take_sn]
theorem init_num {l v : D} (m : Mu) (h : nins l = true) (hw : isW 1 3 l = false) : M_Machine_init [.cel m.length, .d l, .d v] (m ++ [.ins "Machine" [] []]) = .exc "InvalidNumber" ["value"] [l] (m ++ [.ins "Machine" [] []]) := by
  unfold M_Machine_init m_Machine_init
  rw [fnM_ap]
  have e1 := within_ok 1 3 (m ++ [.ins "Machine" [] []]) h
  simp [e1, hw, take_sn]
theorem init_tab {L : Int} {v : D} (m : Mu) (h : dok v = true) (h1 : 1 ≤ L) (h3 : L ≤ 3) (ht : isTab L v = false) : M_Machine_init [.cel m.length, .d (.int L), .d v] (m ++ [.ins "Machine" [] []]) = .exc "InvalidTable" ["value"] [v] (m ++ [.ins "Machine" [] []]) := by
  unfold M_Machine_init m_Machine_init
  rw [fnM_ap]
  have e1 := within_ok (x := .int L) 1 3 (m ++ [.ins "Machine" [] []]) rfl
  have e2 := table_is_ok L (m ++ [.ins "Machine" [] []]) h (by omega)
  have e3 : isW 1 3 (.int L) = true := by simp [isW, h1, h3]
  simp [e1, e2, e3, ht, take_sn]
theorem make_ok {L : Int} {v : D} {g : Gm} {m m1 : Mu} {a : MA} (ha : a g m = .ok [.d (.int L), .d v] m1) (h : dok v = true) (h1 : 1 ≤ L) (h3 : L ≤ 3) (ht : isTab L v = true) : mMake "Machine" 2 M_Machine_init a g m = .ok (.d (mach L v)) m1 := by
  simp [ha, init_ok m1 h h1 h3 ht]
  rfl
theorem len_ok (L : Int) (T : List D) (mu : Mu) : M_Machine_len [.d (mach L (.tup T))] mu = .ok (.d (.int T.length)) mu := by
  unfold M_Machine_len m_Machine_len mach
  rw [fnM_ap]
  simp [lkF, s2]
theorem eq_ok (L L' : Int) {v w : D} (mu : Mu) (hv : Ok 60 v) (hw : Ok 60 w) : M_Machine_eq [.d (mach L v), .d (mach L' w)] mu = .ok (.d (.bl (decide (L = L') && deq v w))) mu := by
  unfold M_Machine_eq m_Machine_eq mach
  rw [fnM_ap]
  have e : ∀ mu, fEq false mu (.d v) (.d w) = some (.bl (deq v w)) := fun mu => by
    rw [fEq_d mu false hv.1 hw.1 (by have := hv.2; omega) (by have := hw.2; omega)]
    simp
  by_cases h : L = L'
  · simp [lkF, s2, isCl, h, e]
  · simp [lkF, s2, isCl, h]
theorem eq_tup (L : Int) {v : D} (T : List D) (mu : Mu) : M_Machine_eq [.d (mach L v), .d (.tup T)] mu = .ok (.d (.bl false)) mu := by
  unfold M_Machine_eq m_Machine_eq mach
  rw [fnM_ap]
  simp [isCl]
/-! ### the walk along a row -/
def stepD (T : List D) (s : Int) (d : D) : Int := if 0 ≤ s then (match L2.atI T s, d with
  | some (.tup r), .int k => (match L2.atI r k with
    | some (.int z) => z
    | _ => s)
  | _, _ => s) else s
theorem isW_int {lo hi : Int} {d : D} (h : isW lo hi d = true) : ∃ i, d = .int i ∧ lo ≤ i ∧ i ≤ hi := by
  cases d <;> simp [isW] at h
  exact ⟨_, rfl, h⟩
theorem isR_tup {n lo hi : Int} {d : D} (h : isR n lo hi d = true) : ∃ xs, d = .tup xs ∧ (xs.length : Int) = n ∧ ∀ x ∈ xs, isW lo hi x = true := by
  cases d <;> simp [isR] at h
  exact ⟨_, rfl, h⟩
theorem isTab_tup {L : Int} {d : D} (h : isTab L d = true) : ∃ T, d = .tup T ∧ 1 ≤ (T.length : Int) ∧ (T.length : Int) ≤ 12 ∧ ∀ x ∈ T, isR L (-1) (T.length - 1) x = true := by
  cases d <;> simp [isTab] at h
  exact ⟨_, rfl, by omega, by omega, h.2⟩
theorem step_ok {L : Int} {T : List D} (hT : ∀ x ∈ T, isR L (-1) (T.length - 1) x = true) {s : Int} {d : D} (h0 : 0 ≤ s) (h1 : s < T.length) (hd : isW 0 (L - 1) d = true) : ∃ r k z, L2.atI T s = some (.tup r) ∧ d = .int k ∧ L2.atI r k = some (.int z) ∧ stepD T s d = z ∧ -1 ≤ z ∧ z < T.length := by
  obtain ⟨k, rfl, hk0, hk1⟩ := isW_int hd
  obtain ⟨x, e, hx⟩ := atI_nn h0 h1
  obtain ⟨r, rfl, hr, hr2⟩ := isR_tup (hT x hx)
  obtain ⟨y, e2, hy⟩ := atI_nn (xs := r) hk0 (by omega)
  obtain ⟨z, rfl, hz0, hz1⟩ := isW_int (hr2 y hy)
  exact ⟨r, k, z, e, rfl, e2, by simp [stepD, h0, e, e2], hz0, by omega⟩
theorem walk_ok {L : Int} {T : List D} (hT : ∀ x ∈ T, isR L (-1) (T.length - 1) x = true) {TE : ME} {a0 a1 : Option Ar} {m : Mu} (hTE : ∀ x2 x3, TE [a0, a1, x2, x3] m = .ok (.d (.tup T)) m) : ∀ (ds : List D) (s : Int) (x3 : Option Ar), (∀ d ∈ ds, isW 0 (L - 1) d = true) → -1 ≤ s → s < T.length → ∃ x3', forL (gN 3) (mIfS (mB (mBin fGe (mVar 2) (mC (.int 0)))) (mAsg (mBin fIx (mBin fIx TE (mVar 2)) (mVar 3)) (gN 2)) mSkip) ds [a0, a1, some (.d (.int s)), x3] m = .nx [a0, a1, some (.d (.int (ds.foldl (stepD T) s))), x3'] m ∧ -1 ≤ ds.foldl (stepD T) s ∧ ds.foldl (stepD T) s < T.length
  | [], s, x3, _, h0, h1 => ⟨x3, by simp, h0, h1⟩
  | d :: ds, s, x3, h, h0, h1 => by
    by_cases hs : 0 ≤ s
    · obtain ⟨r, k, z, e1, rfl, e2, e3, z0, z1⟩ := step_ok hT hs h1 (h d (by simp))
      obtain ⟨x3', e, q⟩ := walk_ok hT (TE := TE) (m := m) hTE ds z (some (.d (.int k))) (fun d hd => h d (by simp [hd])) z0 z1
      refine ⟨x3', ?_, ?_⟩
      · rw [forL_cons]
        simp [hs, hTE, e1, e2, e3, e]
      · simpa [e3] using q
    · have e3 : stepD T s d = s := by simp [stepD, hs]
      obtain ⟨x3', e, q⟩ := walk_ok hT (TE := TE) (m := m) hTE ds s (some (.d d)) (fun d hd => h d (by simp [hd])) h0 h1
      refine ⟨x3', ?_, ?_⟩
      · rw [forL_cons]
        simp [hs, hTE, e3, e]
      · simpa [e3] using q
theorem law_after_ok {L : Int} {T row : List D} (mu : Mu) (hT : ∀ x ∈ T, isR L (-1) (T.length - 1) x = true) (h0 : 1 ≤ (T.length : Int)) (hr : ∀ d ∈ row, isW 0 (L - 1) d = true) : M_law_after [.d (.tup T), .d (.tup row)] mu = .ok (.d (.int (row.foldl (stepD T) 0))) mu := by
  unfold M_law_after m_law_after
  rw [fnM_ap]
  obtain ⟨x3, e, _⟩ := walk_ok hT (TE := mVar 0) (a0 := some (.d (.tup T))) (a1 := some (.d (.tup row))) (m := mu) (by intros; simp) row 0 none hr (by omega) (by omega)
  simp [e]
theorem after_ok {L : Int} {T row : List D} (mu : Mu) (hT : ∀ x ∈ T, isR L (-1) (T.length - 1) x = true) (h0 : 1 ≤ (T.length : Int)) (hr : ∀ d ∈ row, isW 0 (L - 1) d = true) (hd : dok (.tup row) = true) (hl : row.length ≤ 16777216) : M_Machine_after [.d (mach L (.tup T)), .d (.tup row)] mu = .ok (.d (.int (row.foldl (stepD T) 0))) mu := by
  unfold M_Machine_after m_Machine_after mach
  rw [fnM_ap]
  obtain ⟨x3, e, _⟩ := walk_ok hT (TE := mFld "Machine" "table" (mVar 0)) (a0 := some (.d (.ins "Machine" ["letters", "table"] [.int L, .tup T]))) (a1 := some (.d (.tup row))) (m := mu) (by intros; simp [lkF, s2]) row 0 none hr (by omega) (by omega)
  have e1 := row_ok L mu hd (fun xs h => by cases h; exact hl)
  have e2 : isRow L (.tup row) = true := by simp [isRow]; exact hr
  simp [lkF, s2, e1, e2, e]
theorem after_bad {L : Int} {T : List D} {x : D} (mu : Mu) (hd : dok x = true) (hl : ∀ xs, x = .tup xs → xs.length ≤ 16777216) (hr : isRow L x = false) : M_Machine_after [.d (mach L (.tup T)), .d x] mu = .exc "InvalidRow" ["value"] [x] mu := by
  unfold M_Machine_after m_Machine_after mach
  rw [fnM_ap]
  have e1 := row_ok L mu hd hl
  simp [lkF, s2, e1, hr]
/-! ### what is told of a machine -/
theorem told_kept {L : Int} {v : D} (mu : Mu) (h : dok v = true) (h1 : 1 ≤ L) (h3 : L ≤ 3) (ht : isTab L v = true) : M_law_told [.d (.int L), .d v] mu = .ok (.d (.tup [.str "kept", v])) mu := by
  unfold M_law_told m_law_told
  rw [fnM_ap]
  simp [mTry, init_ok mu h h1 h3 ht, lkF, s2]
theorem told_table {L : Int} {v : D} (mu : Mu) (h : dok v = true) (h1 : 1 ≤ L) (h3 : L ≤ 3) (ht : isTab L v = false) : M_law_told [.d (.int L), .d v] mu = .ok (.d (.tup [.str "table", v])) mu := by
  unfold M_law_told m_law_told
  rw [fnM_ap]
  simp [mTry, init_tab mu h h1 h3 ht, lkF, s2, hdlL, s4, inH, outH, clr, noX]
theorem told_num {l v : D} (mu : Mu) (h : nins l = true) (hw : isW 1 3 l = false) : M_law_told [.d l, .d v] mu = .ok (.d (.tup [.str "number", l])) mu := by
  unfold M_law_told m_law_told
  rw [fnM_ap]
  simp [mTry, init_num mu h hw, lkF, s2, hdlL, s4, inH, outH, clr, noX]
end K02
namespace K02
open PySem Dw
theorem fAppend_last {m : Mu} {n : Nat} {acc : List D} {x : D} (hn : m.length = n) (h : acc.length < 16777216) : fAppend (m ++ [.lst acc]) (.cel n) [.d x] = some (.non, m ++ [.lst (acc ++ [x])]) := by
  unfold fAppend
  have e : (m ++ [Cl.lst acc])[n]? = some (.lst acc) := by
    rw [List.getElem?_append_right (by omega)]; simp [hn]
  simp only [e]
  rw [if_pos h, List.set_append_right _ _ (by omega)]
  simp [hn]
theorem isLC_last {m : Mu} {n : Nat} {acc : List D} (hn : m.length = n) : isLC (m ++ [.lst acc]) (.cel n) = true := by
  unfold isLC
  have e : (m ++ [Cl.lst acc])[n]? = some (.lst acc) := by
    rw [List.getElem?_append_right (by omega)]; simp [hn]
  simp only [e]
theorem get_last {m : Mu} {n : Nat} {c : Cl} (hn : m.length = n) : (m ++ [c])[n]? = some c := by
  rw [List.getElem?_append_right (by omega)]; simp [hn]
theorem rng_len (lo : Int) (n : Nat) : (rngD lo n).length = n := by simp [rngD]
theorem cell_ok {b : Nat} {n : Int} {mu : Mu} {r : Mu} (hb : Bx mu b) (h0 : 0 < n) (h1 : n < 1073741824) : ∃ z mu', M_law_take [.cel b, .d (.int n)] (mu ++ r) = .ok (.d (.int z)) (mu' ++ r) ∧ Bm mu b mu' ∧ 0 ≤ z ∧ z < n := by
  obtain ⟨z, mu', e, hm, z0, z1⟩ := take_ok b n (mu ++ r) (hb.app r) h0 h1
  obtain ⟨m1, rfl, hm1⟩ := Bm.app hb hm
  exact ⟨z, m1, e, hm1, z0, z1⟩
theorem gen_ok {b : Nat} {L most : Int} {mu : Mu} (hb : Bx mu b) (h1 : 1 ≤ L) (h3 : L ≤ 3) (m0 : 0 < most) (m1 : most ≤ 12) : ∃ v mu', M_law_table [.cel b, .d (.int L), .d (.int most)] mu = .ok (.d v) mu' ∧ Bm mu b mu' ∧ isTab L v = true ∧ Lv 2 v := by
  unfold M_law_table m_law_table
  rw [fnM_ap]
  obtain ⟨s, mu1, e1, b1, s0, s1⟩ := take_ok b most mu hb m0 (by omega)
  obtain ⟨gp, mu2, e2, b2, hgp⟩ := pick_ok (b := b) (xs := [.int 2, .int 4, .int 8]) (b1.bx hb) (by simp) (by simp)
  have b02 := b1.tr b2
  obtain ⟨G, rfl, hG0, hG1⟩ : ∃ G : Int, gp = .int G ∧ 0 < G ∧ G ≤ 8 := by
    simp at hgp
    rcases hgp with rfl | rfl | rfl
    · exact ⟨2, rfl, by omega, by omega⟩
    · exact ⟨4, rfl, by omega, by omega⟩
    · exact ⟨8, rfl, by omega, by omega⟩
  have hS : ((1 + s).toNat : Int) = 1 + s := by omega
  have hL : (L.toNat : Int) = L := by omega
  have lp := forL_inv (t := gN 6) (b := (mDrop (mBM isLC fAppend (mVar 5) (mCons (mCB fTuple (mCons (mLc [7] (mRng1 (mCons (mVar 1) mNil)) (gN 7) mYes (mIf (mB (mBin fGt (mCall 2 M_law_take (mCons (mVar 0) (mCons (mVar 4) mNil))) (mC (.int 0)))) (mCall 2 M_law_take (mCons (mVar 0) (mCons (mVar 3) mNil))) (mUn fNeg (mC (.int 1))))) mNil)) mNil))))
    (fun ds g m => ∃ m1 acc v6, m = m1 ++ [.lst acc] ∧ Bm mu b m1 ∧ acc.length + ds.length = (1 + s).toNat ∧ (∀ r ∈ acc, isR L (-1) s r = true) ∧ g = [some (.cel b), some (.d (.int L)), some (.d (.int most)), some (.d (.int (1 + s))), some (.d (.int G)), some (.cel mu.length), v6, none])
    (rngD 0 (1 + s).toNat) [some (.cel b), some (.d (.int L)), some (.d (.int most)), some (.d (.int (1 + s))), some (.d (.int G)), some (.cel mu.length), none, none] (mu2 ++ [.lst []]) ⟨mu2, [], none, rfl, b02, by simp [rng_len], by simp, rfl⟩ fun d ds g m ⟨m1, acc, v6, hm, hb1, hlen, hacc, hg⟩ => by
      subst hm hg
      refine ⟨_, rfl, ?_⟩
      have hlen' : acc.length + (ds.length + 1) = (1 + s).toNat := hlen
      obtain ⟨ys, mq, e, ⟨m5, rfl, hb5⟩, hY⟩ := lc_inv (vs := [7]) (i := mRng1 (mCons (mVar 1) mNil)) (t := gN 7) (me := (mIf (mB (mBin fGt (mCall 2 M_law_take (mCons (mVar 0) (mCons (mVar 4) mNil))) (mC (.int 0)))) (mCall 2 M_law_take (mCons (mVar 0) (mCons (mVar 3) mNil))) (mUn fNeg (mC (.int 1))))) (g := [some (.cel b), some (.d (.int L)), some (.d (.int most)), some (.d (.int (1 + s))), some (.d (.int G)), some (.cel mu.length), some (.d d), none]) (mu := m1 ++ [.lst acc]) (mu1 := m1 ++ [.lst acc]) (ds := rngD 0 L.toNat)
        (fun m => ∃ m5, m = m5 ++ [.lst acc] ∧ Bm mu b m5) (fun _ y => isW (-1) s y = true) (fun m ⟨m5, e, h⟩ => by rw [e]; simp [h.len, hb1.len])
        (by
          have : L < 4611686018427387904 := by omega
          have : -4611686018427387904 ≤ L := by omega
          simp [*]) ⟨m1, rfl, hb1⟩ (by rw [rng_len]; omega) fun d hd acc2 m ⟨m5, hm, h5⟩ => by
          subst hm
          have hb5 := h5.bx hb
          obtain ⟨z, m6, e6, b6, z0, z1⟩ := cell_ok (r := [.lst acc, .lst acc2]) hb5 hG0 (by omega)
          have b06 := h5.tr b6
          by_cases hz : 0 < z
          · obtain ⟨w, m7, e7, b7, w0, w1⟩ := cell_ok (n := 1 + s) (r := [.lst acc, .lst acc2]) (b06.bx hb) (by omega) (by omega)
            exact ⟨_, .int w, m7 ++ [.lst acc], rfl, by simp [wipeG, e6, hz, e7], ⟨m7, rfl, b06.tr b7⟩, by simp [isW]; omega⟩
          · exact ⟨_, .int (-1), m6 ++ [.lst acc], rfl, by simp [wipeG, e6, hz], ⟨m6, rfl, b06⟩, by simp [isW]; omega⟩
      refine ⟨_, _, .inl (by
        have hn : m5.length = mu.length := hb5.len
        simp [isLC_last hb1.len, e, fAppend_last hn (show acc.length < 16777216 by omega)]), ⟨m5, acc ++ [.tup ys], some (.d d), rfl, hb5, by simp; omega, ?_, rfl⟩⟩
      intro r hr
      rcases List.mem_append.mp hr with h | h
      · exact hacc r h
      · rw [List.mem_singleton.mp h]
        have := hY.length
        rw [rng_len] at this
        simp [isR]
        refine ⟨by omega, fun x hx => hY.all (P := fun y => isW (-1) s y = true) (fun _ _ h => h) x hx⟩
  obtain ⟨g2, m2, e3, m5, acc, v6, rfl, hb5, hlen, hacc, rfl⟩ := lp
  refine ⟨.tup acc, m5, ?_, hb5, ?_, ?_⟩
  · have g1 : (1 + s) < 4611686018427387904 := by omega
    have g2 : -4611686018427387904 ≤ 1 + s := by omega
    have g3 := b02.len
    have g4 := hb5.len
    have g5 : (m5 ++ [Cl.lst acc])[mu.length]? = some (.lst acc) := get_last g4
    have g6 : (m5 ++ [Cl.lst acc]).take mu.length = m5 := by rw [← g4]; simp
    simp [e1, e2, g1, g2, g3, e3, g5, g6]
  · have hl : acc.length = (1 + s).toNat := by simpa using hlen
    have : ((acc.length : Nat) : Int) = 1 + s := by omega
    simp [isTab]
    refine ⟨by omega, fun x hx => ?_⟩
    have e : ((acc.length : Nat) : Int) - 1 = s := by omega
    rw [e]; exact hacc x hx
  · refine .inr ⟨acc, rfl, by simp at hlen; omega, fun x hx => ?_⟩
    obtain ⟨xs, rfl, hx1, hx2⟩ := isR_tup (hacc x hx)
    refine .inr ⟨xs, rfl, by omega, fun y hy => ?_⟩
    obtain ⟨i, rfl, i0, i1⟩ := isW_int (hx2 y hy)
    exact ⟨by omega, by omega⟩
end K02
namespace K02
open PySem Dw
def law_1 : MS := (mAsg (mCall 2 M_law_box (mCons (mVar 0) (mCons (mC (.int 0)) mNil))) (gN 1))
def law_2 : MS := (mAsg (mBin fAdd (mC (.int 1)) (mCall 2 M_law_take (mCons (mVar 1) (mCons (mC (.int 3)) mNil)))) (gN 2))
def law_3 : MS := (mAsg (mCall 3 M_law_table (mCons (mCall 2 M_law_box (mCons (mVar 0) (mCons (mC (.int 1)) mNil))) (mCons (mVar 2) (mCons (mC (.int 12)) mNil)))) (gN 3))
def law_4 : MS := (mAsg (mMake "Machine" 2 M_Machine_init (mCons (mVar 2) (mCons (mVar 3) mNil))) (gN 4))
def law_5 : MS := (mIfS (mOr (mB (mBin (fEq true) (mFld "Machine" "letters" (mVar 4)) (mVar 2))) (mOr (mB (mBin (fEq true) (mFld "Machine" "table" (mVar 4)) (mVar 3))) (mB (mBin (fEq true) (mLenOwn "Machine" M_Machine_len (mVar 4)) (mCB fLen (mCons (mVar 3) mNil))))))
    (mRet (mC (.bl false)))
    mSkip)
def law_6 : MS := (mIfS (mOr (mNot (mB (mEqOwn "Machine" M_Machine_eq (mVar 4) (mMake "Machine" 2 M_Machine_init (mCons (mVar 2) (mCons (mVar 3) mNil)))))) (mB (mEqOwn "Machine" M_Machine_eq (mVar 4) (mVar 3))))
    (mRet (mC (.bl false)))
    mSkip)
def law_7 : MS := (mAsg (mIf (mB (mBin fLt (mCB fLen (mCons (mVar 3) mNil)) (mC (.int 7)))) (mMake "Machine" 2 M_Machine_init (mCons (mVar 2) (mCons (mBin fAdd (mVar 3) (mVar 3)) mNil))) (mVar 4)) (gN 5))
def law_8 : MS := (mIfS (mNot (mB (mCall 2 M_law_is_due (mCons (mEqOwn "Machine" M_Machine_eq (mVar 4) (mVar 5)) (mCons (mBin fGe (mCB fLen (mCons (mVar 3) mNil)) (mC (.int 7))) mNil)))))
    (mRet (mC (.bl false)))
    mSkip)
def law_9 : MS := (mAsg (mLstC (mCons (mVar 3) (mCons (mCB fList (mCons (mVar 3) mNil)) (mCons (mSl fSlA (mVar 3) (mPart (mC (.int 1))) mNoP) (mCons (mBin fMulA (mVar 3) (mC (.int 2))) (mCons (mBin fMulA (mVar 3) (mC (.int 13))) (mCons (mTup mNil) (mCons (mC .non) (mCons (mC (.int 0)) (mCons (mBin fAdd (mSl fSlA (mVar 3) mNoP (mPart (mUn fNeg (mC (.int 1))))) (mTup (mCons (mBin fAdd (mBin fIx (mVar 3) (mUn fNeg (mC (.int 1)))) (mTup (mCons (mC (.int 0)) mNil))) mNil))) (mCons (mBin fAdd (mVar 3) (mTup (mCons (mCB fList (mCons (mBin fIx (mVar 3) (mC (.int 0))) mNil)) mNil))) mNil))))))))))) (gN 6))
def law_10 : MS := (mAsg (mBinC fCatC (mVar 6) (mLst (mCons (mBin fMulA (mTup (mCons (mBin fMulA (mTup (mCons (mCB fLen (mCons (mVar 3) mNil)) mNil)) (mVar 2)) mNil)) (mCB fLen (mCons (mVar 3) mNil))) (mCons (mBin fMulA (mTup (mCons (mBin fMulA (mTup (mCons (mUn fNeg (mC (.int 2))) mNil)) (mVar 2)) mNil)) (mCB fLen (mCons (mVar 3) mNil))) (mCons (mBin fMulA (mTup (mCons (mBin fMulA (mTup (mCons (mC (.bl true)) mNil)) (mVar 2)) mNil)) (mCB fLen (mCons (mVar 3) mNil))) mNil))))) (gN 6))
def law_11 : MS := (mFor (mRng1 (mCons (mC (.int 5)) mNil)) (gN 7)
    (mDrop (mBM isLC fAppend (mVar 6) (mCons (mCall 3 (M_law_spoilt 3) (mCons (mVar 1) (mCons (mVar 3) (mCons (mC (.int 2)) mNil)))) mNil))))
def law_12 : MS := (mForC 200 (mVar 6) (gN 8)
    (mSeq (mAsg (mIf (mB (mCall 2 M_law_is_table (mCons (mVar 8) (mCons (mVar 2) mNil)))) (mTup (mCons (mC (.str "kept")) (mCons (mVar 8) mNil))) (mTup (mCons (mC (.str "table")) (mCons (mVar 8) mNil)))) (gN 9))
    (mIfS (mB (mBin (fEq true) (mCall 2 M_law_told (mCons (mVar 2) (mCons (mVar 8) mNil))) (mVar 9)))
    (mRet (mC (.bl false)))
    mSkip)))
def law_13 : MS := (mFor (mItL (mLst (mCons (mC (.int 0)) (mCons (mC (.int 4)) (mCons (mUn fNeg (mC (.int 1))) (mCons (mC .non) (mCons (mC (.bl true)) (mCons (mC (.str "2")) mNil)))))))) (gN 10)
    (mIfS (mB (mBin (fEq true) (mCall 2 M_law_told (mCons (mVar 10) (mCons (mVar 3) mNil))) (mTup (mCons (mC (.str "number")) (mCons (mVar 10) mNil)))))
    (mRet (mC (.bl false)))
    mSkip))
def law_14 : MS := (mFor (mRng1 (mCons (mC (.int 6)) mNil)) (gN 7)
    (mSeq (mAsg (mCB fTuple (mCons (mLc [12] (mRng1 (mCons (mCall 2 M_law_take (mCons (mVar 1) (mCons (mC (.int 21)) mNil))) mNil)) (gN 12) mYes (mCall 2 M_law_take (mCons (mVar 1) (mCons (mVar 2) mNil)))) mNil)) (gN 11))
    (mSeq (mAsg (mMeth "Machine" "after" 1 M_Machine_after (mVar 4) (mCons (mVar 11) mNil)) (gN 13))
    (mIfS (mOr (mB (mBin (fIsB true) (mCall 2 M_is_row (mCons (mVar 11) (mCons (mVar 2) mNil))) (mC (.bl true)))) (mOr (mNot (mB (mCall 1 M_law_whole (mCons (mVar 13) mNil)))) (mB (mBin (fEq true) (mVar 13) (mCall 2 M_law_after (mCons (mVar 3) (mCons (mVar 11) mNil)))))))
    (mRet (mC (.bl false)))
    mSkip))))
def law_15 : MS := (mAsg (mBin fMulA (mCB fTuple (mCons (mLc [12] (mRng1 (mCons (mC (.int 40)) mNil)) (gN 12) mYes (mCall 2 M_law_take (mCons (mVar 1) (mCons (mVar 2) mNil)))) mNil)) (mC (.int 60))) (gN 11))
def law_16 : MS := (mAsg (mMake "Machine" 2 M_Machine_init (mCons (mVar 2) (mCons (mCB fTuple (mCons (mLc [16] (mItT (mVar 3)) (gN 16) mYes (mCB fTuple (mCons (mLc [15] (mItT (mVar 16)) (gN 15) mYes (mCB fMax2 (mCons (mC (.int 0)) (mCons (mVar 15) mNil)))) mNil))) mNil)) mNil))) (gN 14))
def law_17 : MS := (mIfS (mOr (mB (mBin (fEq true) (mMeth "Machine" "after" 1 M_Machine_after (mVar 4) (mCons (mVar 11) mNil)) (mCall 2 M_law_after (mCons (mVar 3) (mCons (mVar 11) mNil))))) (mOr (mB (mBin (fEq true) (mMeth "Machine" "after" 1 M_Machine_after (mVar 14) (mCons (mVar 11) mNil)) (mCall 2 M_law_after (mCons (mFld "Machine" "table" (mVar 14)) (mCons (mVar 11) mNil))))) (mB (mBin (fIsB true) (mCall 2 M_is_row (mCons (mVar 11) (mCons (mVar 2) mNil))) (mC (.bl true))))))
    (mRet (mC (.bl false)))
    mSkip)
def law_18 : MS := (mFor (mItL (mLst (mCons (mLst (mCons (mC (.int 0)) mNil)) (mCons (mTup (mCons (mVar 2) mNil)) (mCons (mTup (mCons (mUn fNeg (mC (.int 1))) mNil)) (mCons (mTup (mCons (mC (.bl true)) mNil)) (mCons (mC .non) (mCons (mC (.int 0)) (mCons (mC (.str "0")) (mCons (mTup (mCons (mTup (mCons (mC (.int 0)) mNil)) mNil)) mNil)))))))))) (gN 10)
    (mSeq (mIfS (mB (mBin (fIsB true) (mCall 2 M_is_row (mCons (mVar 10) (mCons (mVar 2) mNil))) (mC (.bl false))))
    (mRet (mC (.bl false)))
    mSkip)
    (mTry ["InvalidNumber", "InvalidTable", "InvalidRow"] (mSeq (mDrop (mMeth "Machine" "after" 1 M_Machine_after (mVar 4) (mCons (mVar 10) mNil)))
    (mRet (mC (.bl false))))
    [⟨"InvalidRow", (some 17), (mIfS (mB (mBin (fEq true) (mXf "value" (mVar 17)) (mVar 10)))
    (mRet (mC (.bl false)))
    mSkip)⟩])))
def law_19 : MS := (mRet (mC (.bl true)))
theorem law_is : m_law = (mSeq law_1 (mSeq law_2 (mSeq law_3 (mSeq law_4 (mSeq law_5 (mSeq law_6 (mSeq law_7 (mSeq law_8 (mSeq law_9 (mSeq law_10 (mSeq law_11 (mSeq law_12 (mSeq law_13 (mSeq law_14 (mSeq law_15 (mSeq law_16 (mSeq law_17 (mSeq law_18 law_19)))))))))))))))))) := rfl

theorem insOf_mach (L : Int) (v : D) (mu : Mu) : insOf "Machine" mu (.d (mach L v)) = some ((["letters", "table"] : List Str), [D.int L, v]) := insOf_ins _ _ _ _
theorem eqOwn_mach {L L' : Int} {v w : D} {a b : ME} {g : Gm} {mu m1 m2 : Mu} (ha : a g mu = .ok (.d (mach L v)) m1) (hb : b g m1 = .ok (.d (mach L' w)) m2) (hv : Ok 60 v) (hw : Ok 60 w) : mEqOwn "Machine" M_Machine_eq a b g mu = .ok (.d (.bl (decide (L = L') && deq v w))) m2 := by
  have e := eq_ok L L' m2 hv hw
  have q : mEqOwn "Machine" M_Machine_eq a b g mu = (match M_Machine_eq [.d (mach L v), .d (mach L' w)] m2 with
    | .ok (.d (.bl r)) m2 => .ok (.d (.bl r)) m2
    | _ => .stuck) := by
    rw [mEqOwn_ap, ha, bd_ok, hb, bd_ok, insOf_mach]
    try rfl
  rw [q, e]
theorem eqOwn_tup {L : Int} {v : D} {T : List D} {a b : ME} {g : Gm} {mu m1 m2 : Mu} (ha : a g mu = .ok (.d (mach L v)) m1) (hb : b g m1 = .ok (.d (.tup T)) m2) : mEqOwn "Machine" M_Machine_eq a b g mu = .ok (.d (.bl false)) m2 := by
  have e := eq_tup L (v := v) T m2
  have q : mEqOwn "Machine" M_Machine_eq a b g mu = (match M_Machine_eq [.d (mach L v), .d (.tup T)] m2 with
    | .ok (.d (.bl r)) m2 => .ok (.d (.bl r)) m2
    | _ => .stuck) := by
    rw [mEqOwn_ap, ha, bd_ok, hb, bd_ok, insOf_mach]
    try rfl
  rw [q, e]
theorem lenOwn_of {C : Str} {F : List Ar → Mu → R Ar} {a : ME} {g : Gm} {mu m1 m2 : Mu} {x : Ar} {n : Int} {q : List Str × List D} (ha : a g mu = .ok x m1) (hi : insOf C m1 x = some q) (hF : F [x] m1 = .ok (.d (.int n)) m2) (h0 : 0 ≤ n) (h1 : n < 2 ^ 63) : mLenOwn C F a g mu = .ok (.d (.int n)) m2 := by
  rw [mLenOwn_ap, ha, bd_ok, hi]
  dsimp only
  rw [hF]
  dsimp only
  rw [if_pos ⟨h0, h1⟩]
theorem lt63 {n : Int} (h : n ≤ 100000000) : n < 2 ^ 63 := by omega
theorem seq_go {a b : MS} {g g1 : Gm} {m m1 : Mu} {x : Ar} (h : a g m = .nx g1 m1) (k : ∃ m', b g1 m1 = .rt x m') : ∃ m', mSeq a b g m = .rt x m' := by
  rw [mSeq_ap, h]; exact k
theorem ne_same {k : Nat} {x : D} (mu : Mu) (h : Ok k x) (hk : k ≤ 64) : fEq true mu (.d x) (.d x) = some (.bl false) := by
  have := h.2
  rw [fEq_d mu true h.1 h.1 (by omega) (by omega), deq_rfl x h.1]
  rfl
theorem rep_ok {xs : List D} {k : Int} (mu : Mu) (h1 : 1 ≤ k) (h2 : k ≤ 1000) (h3 : xs.length ≤ 1000) : fMulA mu (.d (.tup xs)) (.d (.int k)) = some (.tup (List.replicate k.toNat xs).flatten) := by
  rw [fMulA_tup]
  by_cases h : xs.length = 0 ∨ k = 1
  · rw [if_pos h, if_pos (by omega)]
    rcases h with h | h
    · have := List.eq_nil_of_length_eq_zero h
      subst this
      simp
    · subst h
      simp
  · rw [if_neg h, if_pos (by omega)]
theorem mem_rep {xs : List D} {n : Nat} {x : D} (h : x ∈ (List.replicate n xs).flatten) : x ∈ xs := by
  rw [List.mem_flatten] at h
  obtain ⟨l, h1, h2⟩ := h
  rw [(List.mem_replicate.mp h1).2] at h2
  exact h2
section
variable {ns : List Int} {L : Int} {T : List D}
theorem Ok.int (k : Nat) (i : Int) : Ok k (.int i) := ⟨by simp [dok], by simp [dep]⟩
theorem Ok.bl (k : Nat) (i : Bool) : Ok k (.bl i) := ⟨by simp [dok], by simp [dep]⟩
theorem Ok.non (k : Nat) : Ok k .non := ⟨by simp [dok], by simp [dep]⟩
theorem Ok.str (k : Nat) (s : String) : Ok k (.str (Str.ofString s)) := ⟨by simp only [dok]; exact strOk_of s, by simp [dep]⟩
theorem deqs_len : ∀ {xs ys : List D}, deqs xs ys = true → xs.length = ys.length
  | [], [], _ => rfl
  | [], _ :: _, h => by simp [deqs] at h
  | _ :: _, [], h => by simp [deqs] at h
  | x :: xs, y :: ys, h => by
    simp only [deqs, Bool.and_eq_true] at h
    exact congrArg (· + 1) (deqs_len h.2)
/-- what is known of the table -/
structure Tb (L : Int) (T : List D) : Prop where
  l1 : 1 ≤ L
  l3 : L ≤ 3
  n1 : 1 ≤ (T.length : Int)
  n12 : (T.length : Int) ≤ 12
  rows : ∀ x ∈ T, isR L (-1) (T.length - 1) x = true
  ok : Ok 2 (.tup T)
  lv : Lv 2 (.tup T)
theorem isW_mono {lo hi hi' : Int} {x : D} (h : isW lo hi x = true) (hh : hi ≤ hi') : isW lo hi' x = true := by
  obtain ⟨i, rfl, a, b⟩ := isW_int h
  simp [isW]; omega
theorem isR_mono {n lo hi hi' : Int} {x : D} (h : isR n lo hi x = true) (hh : hi ≤ hi') : isR n lo hi' x = true := by
  obtain ⟨xs, rfl, a, b⟩ := isR_tup h
  simp [isR, a]
  exact fun x hx => isW_mono (b x hx) hh
theorem Tb.tab (h : Tb L T) : isTab L (.tup T) = true := by
  have h1 := h.n1
  have h2 := h.n12
  have h3 := h.rows
  have e1 : decide (1 ≤ (T.length : Int)) = true := by simpa using h1
  have e2 : decide ((T.length : Int) ≤ 12) = true := by simpa using h2
  simp only [isTab, e1, e2]
  simpa using h3
theorem Tb.two (h : Tb L T) (h6 : (T.length : Int) < 7) : isTab L (.tup (T ++ T)) = true := by
  have h1 := h.n1
  have e1 : decide (1 ≤ ((T ++ T).length : Int)) = true := by simp; omega
  have e2 : decide (((T ++ T).length : Int) ≤ 12) = true := by simp; omega
  simp only [isTab, e1, e2]
  simp
  intro x hx
  exact isR_mono (h.rows x hx) (by omega)
theorem st_5 (h : Tb L T) (mu : Mu) : law_5 [some (.scr ns), some (.cel 0), some (.d (.int L)), some (.d (.tup T)), some (.d (mach L (.tup T))), none, none, none, none, none, none, none, none, none, none, none, none, none] mu = .nx [some (.scr ns), some (.cel 0), some (.d (.int L)), some (.d (.tup T)), some (.d (mach L (.tup T))), none, none, none, none, none, none, none, none, none, none, none, none, none] mu := by
  have e := ne_same mu h.ok (by omega)
  have e2 := len_ok L T mu
  have h12 := h.n12
  have e3 := lenOwn_of (C := "Machine") (a := mVar 4) (g := [some (.scr ns), some (.cel 0), some (.d (.int L)), some (.d (.tup T)), some (.d (mach L (.tup T))), none, none, none, none, none, none, none, none, none, none, none, none, none]) (mu := mu) (by simp) (insOf_mach L (.tup T) mu) e2 (by omega) (lt63 (by omega))
  have q1 : mB (mBin (fEq true) (mFld "Machine" "letters" (mVar 4)) (mVar 2)) [some (.scr ns), some (.cel 0), some (.d (.int L)), some (.d (.tup T)), some (.d (mach L (.tup T))), none, none, none, none, none, none, none, none, none, none, none, none, none] mu = .ok false mu := by
    simp [insOf_mach, lkF]
  have q2 : mB (mBin (fEq true) (mFld "Machine" "table" (mVar 4)) (mVar 3)) [some (.scr ns), some (.cel 0), some (.d (.int L)), some (.d (.tup T)), some (.d (mach L (.tup T))), none, none, none, none, none, none, none, none, none, none, none, none, none] mu = .ok false mu := by
    simp [insOf_mach, lkF, s2, e]
  have q3 : mB (mBin (fEq true) (mLenOwn "Machine" M_Machine_len (mVar 4)) (mCB fLen (mCons (mVar 3) mNil))) [some (.scr ns), some (.cel 0), some (.d (.int L)), some (.d (.tup T)), some (.d (mach L (.tup T))), none, none, none, none, none, none, none, none, none, none, none, none, none] mu = .ok false mu := by
    simp [e3, -mLenOwn_ap]
  unfold law_5
  rw [mIfS_ap, mOr_ap, q1, bd_ok, if_neg Bool.false_ne_true, mOr_ap, q2, bd_ok, if_neg Bool.false_ne_true, q3]
  rfl
theorem st_6 (h : Tb L T) (mu : Mu) : law_6 [some (.scr ns), some (.cel 0), some (.d (.int L)), some (.d (.tup T)), some (.d (mach L (.tup T))), none, none, none, none, none, none, none, none, none, none, none, none, none] mu = .nx [some (.scr ns), some (.cel 0), some (.d (.int L)), some (.d (.tup T)), some (.d (mach L (.tup T))), none, none, none, none, none, none, none, none, none, none, none, none, none] mu := by
  unfold law_6
  have e1 := eqOwn_mach (L := L) (L' := L) (v := .tup T) (w := .tup T) (a := mVar 4) (b := mMake "Machine" 2 M_Machine_init (mCons (mVar 2) (mCons (mVar 3) mNil))) (g := [some (.scr ns), some (.cel 0), some (.d (.int L)), some (.d (.tup T)), some (.d (mach L (.tup T))), none, none, none, none, none, none, none, none, none, none, none, none, none]) (mu := mu) (m1 := mu) (m2 := mu) (by simp) (make_ok (by simp) h.ok.1 h.l1 h.l3 h.tab) (h.ok.mono (by omega)) (h.ok.mono (by omega))
  have e2 := eqOwn_tup (L := L) (v := .tup T) (T := T) (a := mVar 4) (b := mVar 3) (g := [some (.scr ns), some (.cel 0), some (.d (.int L)), some (.d (.tup T)), some (.d (mach L (.tup T))), none, none, none, none, none, none, none, none, none, none, none, none, none]) (mu := mu) (m1 := mu) (m2 := mu) (by simp) (by simp)
  rw [deq_rfl _ h.ok.1] at e1
  rw [mIfS_ap, mOr_ap, mNot_ap, mB_ap, e1]
  simp only [bd_ok, decide_true, Bool.and_self, Bool.not_true]
  rw [mB_ap, e2]
  rfl
theorem deq_two (h : Tb L T) : deq (.tup T) (.tup (T ++ T)) = false := by
  have h1 := h.n1
  cases e : deq (.tup T) (.tup (T ++ T)) with
  | false => rfl
  | true =>
    simp only [deq] at e
    have := deqs_len e
    simp at this
    subst this
    simp at h1
theorem st_7 (h : Tb L T) (mu : Mu) : ∃ w, law_7 [some (.scr ns), some (.cel 0), some (.d (.int L)), some (.d (.tup T)), some (.d (mach L (.tup T))), none, none, none, none, none, none, none, none, none, none, none, none, none] mu = .nx [some (.scr ns), some (.cel 0), some (.d (.int L)), some (.d (.tup T)), some (.d (mach L (.tup T))), some (.d (mach L w)), none, none, none, none, none, none, none, none, none, none, none, none] mu ∧ Ok 60 w ∧ deq (.tup T) w = decide (7 ≤ (T.length : Int)) := by
  by_cases h6 : (T.length : Int) < 7
  · have ok2 : Ok 2 (.tup (T ++ T)) := Ok.tup fun x hx => h.ok.mem x (by simpa using hx)
    have e := make_ok (L := L) (v := .tup (T ++ T)) (g := [some (.scr ns), some (.cel 0), some (.d (.int L)), some (.d (.tup T)), some (.d (mach L (.tup T))), none, none, none, none, none, none, none, none, none, none, none, none, none]) (m := mu) (m1 := mu) (a := (mCons (mVar 2) (mCons (mBin fAdd (mVar 3) (mVar 3)) mNil))) (by
      have : T.length + T.length ≤ 16777216 := by omega
      simp [this]) ok2.1 h.l1 h.l3 (h.two h6)
    refine ⟨.tup (T ++ T), ?_, ok2.mono (by omega), ?_⟩
    · have h6' : T.length < 7 := by omega
      unfold law_7
      rw [mAsg_ap, mIf_ap]
      simp [h6, e, -mMake_ap]
    · rw [deq_two h]; simp; omega
  · refine ⟨.tup T, ?_, h.ok.mono (by omega), ?_⟩
    · have h6' : ¬ T.length < 7 := by omega
      unfold law_7
      rw [mAsg_ap, mIf_ap]
      simp [h6, -mMake_ap]
    · rw [deq_rfl _ h.ok.1]; simp; omega
theorem st_8 (h : Tb L T) {w : D} (mu : Mu) (hw : Ok 60 w) (hd : deq (.tup T) w = decide (7 ≤ (T.length : Int))) : law_8 [some (.scr ns), some (.cel 0), some (.d (.int L)), some (.d (.tup T)), some (.d (mach L (.tup T))), some (.d (mach L w)), none, none, none, none, none, none, none, none, none, none, none, none] mu = .nx [some (.scr ns), some (.cel 0), some (.d (.int L)), some (.d (.tup T)), some (.d (mach L (.tup T))), some (.d (mach L w)), none, none, none, none, none, none, none, none, none, none, none, none] mu := by
  have e1 := eqOwn_mach (L := L) (L' := L) (v := .tup T) (w := w) (a := mVar 4) (b := mVar 5) (g := [some (.scr ns), some (.cel 0), some (.d (.int L)), some (.d (.tup T)), some (.d (mach L (.tup T))), some (.d (mach L w)), none, none, none, none, none, none, none, none, none, none, none, none]) (mu := mu) (m1 := mu) (m2 := mu) (by simp) (by simp) (h.ok.mono (by omega)) hw
  have e2 := due_ok (decide (7 ≤ (T.length : Int))) (decide (7 ≤ (T.length : Int))) mu
  unfold law_8
  rw [hd] at e1
  rw [mIfS_ap, mNot_ap, mB_ap, mCall_ap, mCons_ap, e1]
  simp at e2
  simp [e2]
end
end K02
namespace K02
open PySem Dw
section
variable {ns : List Int} {L : Int} {T : List D}
theorem Tb.row (h : Tb L T) {x : D} (hx : x ∈ T) : ∃ r, x = .tup r ∧ (r.length : Int) = L ∧ (∀ y ∈ r, isW (-1) (T.length - 1) y = true) ∧ ∀ y ∈ r, Ok 0 y := by
  obtain ⟨r, rfl, a, b⟩ := isR_tup (h.rows x hx)
  refine ⟨r, rfl, a, b, fun y hy => ?_⟩
  obtain ⟨i, rfl, _⟩ := isW_int (b y hy)
  exact Ok.int 0 i
theorem Tb.at0 (h : Tb L T) : ∃ r, L2.atI T 0 = some (.tup r) ∧ (r.length : Int) = L ∧ ∀ y ∈ r, Ok 0 y := by
  have h1 := h.n1
  obtain ⟨x, e, hx⟩ := atI_nn (xs := T) (k := 0) (by omega) (by omega)
  obtain ⟨r, rfl, a, _, b⟩ := h.row hx
  exact ⟨r, e, a, b⟩
theorem Tb.atl (h : Tb L T) : ∃ r, L2.atI T (-1) = some (.tup r) ∧ (r.length : Int) = L ∧ ∀ y ∈ r, Ok 0 y := by
  have h1 := h.n1
  have hl : ((-1 : Int) + T.length).toNat < T.length := by omega
  have e : L2.atI T (-1) = some (T[((-1 : Int) + T.length).toNat]) := by
    have h2 : -(T.length : Int) ≤ -1 := by omega
    simp [L2.atI, L2.ixN, h2, hl]
  obtain ⟨r, e2, a, _, b⟩ := h.row (List.getElem_mem hl)
  exact ⟨r, by rw [e, e2], a, b⟩
def vs9 (T r0 rl : List D) : List D := [.tup T, .lst T, .tup (cutD T (some 1) none), .tup (List.replicate 2 T).flatten, .tup (List.replicate 13 T).flatten, .tup [], .non, .int 0, .tup (cutD T none (some (-1)) ++ [.tup (rl ++ [.int 0])]), .tup (T ++ [.lst r0])]
theorem st_9 (h : Tb L T) {w : D} (mu : Mu) : ∃ vs, law_9 [some (.scr ns), some (.cel 0), some (.d (.int L)), some (.d (.tup T)), some (.d (mach L (.tup T))), some (.d (mach L w)), none, none, none, none, none, none, none, none, none, none, none, none] mu = .nx [some (.scr ns), some (.cel 0), some (.d (.int L)), some (.d (.tup T)), some (.d (mach L (.tup T))), some (.d (mach L w)), some (.cel mu.length), none, none, none, none, none, none, none, none, none, none, none] (mu ++ [.lst vs]) ∧ vs.length = 10 ∧ ∀ v ∈ vs, Ok 60 v := by
  obtain ⟨r0, e0, l0, o0⟩ := h.at0
  obtain ⟨rl, e1, l1, o1⟩ := h.atl
  have h1 := h.n1
  have h12 := h.n12
  have h3 := h.l3
  have f2 := rep_ok (xs := T) (k := 2) mu (by omega) (by omega) (by omega)
  have f13 := rep_ok (xs := T) (k := 13) mu (by omega) (by omega) (by omega)
  have c1 : (cutD T none (some (-1))).length ≤ 16777215 := by have := len_cut T none (some (-1)); omega
  have c2 : rl.length ≤ 16777215 := by omega
  have c3 : T.length ≤ 16777215 := by omega
  refine ⟨vs9 T r0 rl, ?_, rfl, ?_⟩
  · unfold law_9 vs9
    simp [f2, f13, e0, e1, c1, c2, c3, -fMulA_tup]
  · unfold vs9
    simp only [List.forall_mem_cons]
    have om := h.ok.mem
    refine ⟨h.ok.mono (by omega), (Ok.lst om).mono (by omega), (Ok.tup fun x hx => om x (mem_cut hx)).mono (by omega), (Ok.tup fun x hx => om x (mem_rep hx)).mono (by omega), (Ok.tup fun x hx => om x (mem_rep hx)).mono (by omega), (Ok.tup (k := 0) (by simp)).mono (by omega), Ok.non 60, Ok.int 60 0, (Ok.tup (k := 1) fun x hx => ?_).mono (by omega), (Ok.tup (k := 1) fun x hx => ?_).mono (by omega), by simp⟩
    · rcases List.mem_append.mp hx with q | q
      · exact om x (mem_cut q)
      · rw [List.mem_singleton.mp q]
        refine Ok.tup fun y hy => ?_
        rcases List.mem_append.mp hy with q | q
        · exact o1 y q
        · rw [List.mem_singleton.mp q]; exact Ok.int 0 0
    · rcases List.mem_append.mp hx with q | q
      · exact om x q
      · rw [List.mem_singleton.mp q]
        exact Ok.lst o0
theorem st_10 (h : Tb L T) {w : D} (mu : Mu) (vs : List D) (hl : vs.length = 10) (hv : ∀ v ∈ vs, Ok 60 v) (hm : mu.length = 2) : ∃ ws, law_10 [some (.scr ns), some (.cel 0), some (.d (.int L)), some (.d (.tup T)), some (.d (mach L (.tup T))), some (.d (mach L w)), some (.cel 2), none, none, none, none, none, none, none, none, none, none, none] (mu ++ [.lst vs]) = .nx [some (.scr ns), some (.cel 0), some (.d (.int L)), some (.d (.tup T)), some (.d (mach L (.tup T))), some (.d (mach L w)), some (.cel 3), none, none, none, none, none, none, none, none, none, none, none] ((mu ++ [.lst vs]) ++ [.lst ws]) ∧ ws.length = 13 ∧ ∀ v ∈ ws, Ok 60 v := by
  have h1 := h.n1
  have h12 := h.n12
  have hl1 := h.l1
  have hl3 := h.l3
  have fa : ∀ (x : D) mu, fMulA mu (.d (.tup [x])) (.d (.int L)) = some (.tup (List.replicate L.toNat [x]).flatten) := fun x mu => rep_ok mu hl1 (by omega) (by simp)
  have fb : ∀ (x : D) mu, fMulA mu (.d (.tup [x])) (.d (.int T.length)) = some (.tup (List.replicate T.length [x]).flatten) := fun x mu => by
    have := rep_ok (xs := [x]) (k := T.length) mu h1 (by omega) (by simp)
    simpa using this
  have fc : ∀ ys, ys.length = 3 → fCatC (mu ++ [.lst vs]) (.cel 2) (.d (.lst ys)) = some (vs ++ ys) := fun ys hy => by
    have e1 : lstD (mu ++ [Cl.lst vs]) (.cel 2) = some vs := by
      simp only [lstD, get_last hm]
    have e2 : lstD (mu ++ [Cl.lst vs]) (.d (.lst ys)) = some ys := rfl
    unfold fCatC
    rw [e1, e2]
    dsimp only
    rw [if_pos (by omega)]
  have ok : ∀ x, Ok 0 x → Ok 60 (.tup (List.replicate T.length [D.tup (List.replicate L.toNat [x]).flatten]).flatten) := fun x hx => by
    refine (Ok.tup (k := 1) fun y hy => ?_).mono (by omega)
    have := mem_rep hy
    rw [List.mem_singleton.mp this]
    refine Ok.tup fun z hz => ?_
    have := mem_rep hz
    rw [List.mem_singleton.mp this]
    exact hx
  refine ⟨vs ++ [.tup (List.replicate T.length [D.tup (List.replicate L.toNat [.int T.length]).flatten]).flatten, .tup (List.replicate T.length [D.tup (List.replicate L.toNat [.int (-2)]).flatten]).flatten, .tup (List.replicate T.length [D.tup (List.replicate L.toNat [.bl true]).flatten]).flatten], ?_, ?_, ?_⟩
  · unfold law_10
    have hn : mu.length + 1 = 3 := by omega
    simp only [mAsg_ap, mBinC_ap, mVar_ap, mLst_ap, mCons_ap, mNil_ap, mBin_ap, mTup_ap, mCB_ap, mC_ap, mUn_ap, bd_ok, st_ok, fLen_tup, fNeg_int, asD_cons, asD_nil, fa, fb, List.length_cons, List.length_nil, List.getElem?_cons_succ, List.getElem?_cons_zero, gN_ap]
    simp [fc, hn, fa, fb, -fMulA_tup]
  · simp [hl]
  · intro v hx
    rcases List.mem_append.mp hx with q | q
    · exact hv v q
    · simp only [List.mem_cons, List.not_mem_nil, or_false] at q
      rcases q with rfl | rfl | rfl
      · exact ok _ (Ok.int 0 _)
      · exact ok _ (Ok.int 0 _)
      · exact ok _ (Ok.bl 0 _)
theorem st_11 (h : Tb L T) {w : D} (m3 : Mu) (ws : List D) (hb : Bx m3 0) (hl : ws.length = 13) (hv : ∀ v ∈ ws, Ok 60 v) (hm : m3.length = 3) : ∃ m4 xs v7, law_11 [some (.scr ns), some (.cel 0), some (.d (.int L)), some (.d (.tup T)), some (.d (mach L (.tup T))), some (.d (mach L w)), some (.cel 3), none, none, none, none, none, none, none, none, none, none, none] (m3 ++ [.lst ws]) = .nx [some (.scr ns), some (.cel 0), some (.d (.int L)), some (.d (.tup T)), some (.d (mach L (.tup T))), some (.d (mach L w)), some (.cel 3), v7, none, none, none, none, none, none, none, none, none, none] (m4 ++ [.lst xs]) ∧ Bx m4 0 ∧ m4.length = 3 ∧ xs.length = 18 ∧ (∀ v ∈ xs, Ok 60 v) ∧ noX v7 = v7 := by
  have lp := forL_inv (t := gN 7) (b := (mDrop (mBM isLC fAppend (mVar 6) (mCons (mCall 3 (M_law_spoilt 3) (mCons (mVar 1) (mCons (mVar 3) (mCons (mC (.int 2)) mNil)))) mNil))))
    (fun ds g m => ∃ m1 acc v7, m = m1 ++ [.lst acc] ∧ Bx m1 0 ∧ m1.length = 3 ∧ acc.length + ds.length = 18 ∧ (∀ v ∈ acc, Ok 60 v) ∧ noX v7 = v7 ∧ g = [some (.scr ns), some (.cel 0), some (.d (.int L)), some (.d (.tup T)), some (.d (mach L (.tup T))), some (.d (mach L w)), some (.cel 3), v7, none, none, none, none, none, none, none, none, none, none])
    (rngD 0 5) [some (.scr ns), some (.cel 0), some (.d (.int L)), some (.d (.tup T)), some (.d (mach L (.tup T))), some (.d (mach L w)), some (.cel 3), none, none, none, none, none, none, none, none, none, none, none] (m3 ++ [.lst ws]) ⟨m3, ws, none, rfl, hb, hm, by rw [rng_len]; omega, hv, rfl, rfl⟩ fun d ds g m ⟨m1, acc, v7, e, hb1, hm1, hlen, hacc, _, hg⟩ => by
      subst e hg
      have hlen' : acc.length + (ds.length + 1) = 18 := hlen
      obtain ⟨r, mu', e, hm', ok⟩ := spoilt_ok 3 2 (.tup T) 2 (m1 ++ [.lst acc]) 0 h.lv (by omega) (by omega) (by omega) (hb1.app _)
      obtain ⟨m5, rfl, h5⟩ := Bm.app hb1 hm'
      refine ⟨_, rfl, _, m5 ++ [.lst (acc ++ [r])], .inl ?_, ⟨m5, acc ++ [r], some (.d d), rfl, h5.bx hb1, by rw [h5.len]; exact hm1, by simp; omega, ?_, rfl, rfl⟩⟩
      · have hn : m5.length = 3 := by rw [h5.len]; exact hm1
        simp [isLC_last hm1, e, fAppend_last hn (show acc.length < 16777216 by omega)]
      · intro v hx
        rcases List.mem_append.mp hx with q | q
        · exact hacc v q
        · rw [List.mem_singleton.mp q]; exact ok.mono (by omega)
  obtain ⟨g2, m2, e3, m4, xs, v7, rfl, hb4, hm4, hlen, hx, hv7, rfl⟩ := lp
  refine ⟨m4, xs, v7, ?_, hb4, hm4, by simpa using hlen, hx, hv7⟩
  unfold law_11
  simp [e3]
theorem st_12 (h : Tb L T) {w : D} {v7 : Option Ar} (m4 : Mu) (xs : List D) (hl : xs.length = 18) (hv : ∀ v ∈ xs, Ok 60 v) (hm : m4.length = 3) : ∃ v8 v9, law_12 [some (.scr ns), some (.cel 0), some (.d (.int L)), some (.d (.tup T)), some (.d (mach L (.tup T))), some (.d (mach L w)), some (.cel 3), v7, none, none, none, none, none, none, none, none, none, none] (m4 ++ [.lst xs]) = .nx [some (.scr ns), some (.cel 0), some (.d (.int L)), some (.d (.tup T)), some (.d (mach L (.tup T))), some (.d (mach L w)), some (.cel 3), v7, v8, v9, none, none, none, none, none, none, none, none] (m4 ++ [.lst xs]) ∧ noX v8 = v8 ∧ noX v9 = v9 := by
  have h3 := h.l3
  have lp := forC_inv (t := gN 8) (b := (mSeq (mAsg (mIf (mB (mCall 2 M_law_is_table (mCons (mVar 8) (mCons (mVar 2) mNil)))) (mTup (mCons (mC (.str "kept")) (mCons (mVar 8) mNil))) (mTup (mCons (mC (.str "table")) (mCons (mVar 8) mNil)))) (gN 9))
    (mIfS (mB (mBin (fEq true) (mCall 2 M_law_told (mCons (mVar 2) (mCons (mVar 8) mNil))) (mVar 9)))
    (mRet (mC (.bl false)))
    mSkip))) (n := 3) (xs := xs)
    (fun k g m => ∃ v8 v9, m = m4 ++ [.lst xs] ∧ noX v8 = v8 ∧ noX v9 = v9 ∧ g = [some (.scr ns), some (.cel 0), some (.d (.int L)), some (.d (.tup T)), some (.d (mach L (.tup T))), some (.d (mach L w)), some (.cel 3), v7, v8, v9, none, none, none, none, none, none, none, none])
    (fun k g m ⟨v8, v9, e, _⟩ => by rw [e]; exact get_last hm) 200 0 [some (.scr ns), some (.cel 0), some (.d (.int L)), some (.d (.tup T)), some (.d (mach L (.tup T))), some (.d (mach L w)), some (.cel 3), v7, none, none, none, none, none, none, none, none, none, none] (m4 ++ [.lst xs]) (by omega) (by omega) ⟨none, none, rfl, rfl, rfl, rfl⟩ fun k g m ⟨v8, v9, e, _, _, hg⟩ d hd => by
      subst e hg
      have ok := hv d (List.mem_of_getElem? hd)
      refine ⟨_, rfl, ?_⟩
      have e1 := law_table_is_ok L (m4 ++ [.lst xs]) ok (by omega)
      cases ht : isTab L d with
      | true =>
        have e2 := told_kept (L := L) (v := d) (m4 ++ [.lst xs]) ok.1 h.l1 h.l3 ht
        have e3 := ne_same (k := 61) (x := .tup [.str "kept", d]) (m4 ++ [.lst xs]) (Ok.tup fun x hx => by
          simp only [List.mem_cons, List.not_mem_nil, or_false] at hx
          rcases hx with rfl | rfl
          · exact Ok.str 60 "kept"
          · exact ok) (by omega)
        rw [ht] at e1
        exact ⟨_, _, .inl (by simp [e1, e2, e3]), some (.d d), some (.d (.tup [.str "kept", d])), rfl, rfl, rfl, rfl⟩
      | false =>
        have e2 := told_table (L := L) (v := d) (m4 ++ [.lst xs]) ok.1 h.l1 h.l3 ht
        have e3 := ne_same (k := 61) (x := .tup [.str "table", d]) (m4 ++ [.lst xs]) (Ok.tup fun x hx => by
          simp only [List.mem_cons, List.not_mem_nil, or_false] at hx
          rcases hx with rfl | rfl
          · exact Ok.str 60 "table"
          · exact ok) (by omega)
        rw [ht] at e1
        exact ⟨_, _, .inl (by simp [e1, e2, e3]), some (.d d), some (.d (.tup [.str "table", d])), rfl, rfl, rfl, rfl⟩
  obtain ⟨g2, m2, e3, v8, v9, rfl, h8, h9, rfl⟩ := lp
  refine ⟨v8, v9, ?_, h8, h9⟩
  unfold law_12
  simp [e3]
theorem st_13 (h : Tb L T) {w : D} {v7 v8 v9 : Option Ar} (mu : Mu) : ∃ v10, law_13 [some (.scr ns), some (.cel 0), some (.d (.int L)), some (.d (.tup T)), some (.d (mach L (.tup T))), some (.d (mach L w)), some (.cel 3), v7, v8, v9, none, none, none, none, none, none, none, none] mu = .nx [some (.scr ns), some (.cel 0), some (.d (.int L)), some (.d (.tup T)), some (.d (mach L (.tup T))), some (.d (mach L w)), some (.cel 3), v7, v8, v9, v10, none, none, none, none, none, none, none] mu ∧ noX v10 = v10 := by
  have lp := forL_inv (t := gN 10) (b := (mIfS (mB (mBin (fEq true) (mCall 2 M_law_told (mCons (mVar 10) (mCons (mVar 3) mNil))) (mTup (mCons (mC (.str "number")) (mCons (mVar 10) mNil)))))
    (mRet (mC (.bl false)))
    mSkip))
    (fun ds g m => ∃ v10, m = mu ∧ noX v10 = v10 ∧ (∀ d ∈ ds, Ok 60 d ∧ isW 1 3 d = false) ∧ g = [some (.scr ns), some (.cel 0), some (.d (.int L)), some (.d (.tup T)), some (.d (mach L (.tup T))), some (.d (mach L w)), some (.cel 3), v7, v8, v9, v10, none, none, none, none, none, none, none])
    [.int 0, .int 4, .int (-1), .non, .bl true, .str "2"] [some (.scr ns), some (.cel 0), some (.d (.int L)), some (.d (.tup T)), some (.d (mach L (.tup T))), some (.d (mach L w)), some (.cel 3), v7, v8, v9, none, none, none, none, none, none, none, none] mu ⟨none, rfl, rfl, by
      simp only [List.forall_mem_cons]
      exact ⟨⟨Ok.int _ _, by simp [isW]⟩, ⟨Ok.int _ _, by simp [isW]⟩, ⟨Ok.int _ _, by simp [isW]⟩, ⟨Ok.non _, by simp [isW]⟩, ⟨Ok.bl _ _, by simp [isW]⟩, ⟨Ok.str _ _, by simp [isW]⟩, by simp⟩, rfl⟩ fun d ds g m ⟨v10, e, _, hd, hg⟩ => by
      subst e hg
      obtain ⟨ok, hw⟩ := hd d (by simp)
      have e2 := told_num (l := d) (v := .tup T) m ok.nins hw
      have e3 := ne_same (k := 61) (x := .tup [.str "number", d]) m (Ok.tup fun x hx => by
        simp only [List.mem_cons, List.not_mem_nil, or_false] at hx
        rcases hx with rfl | rfl
        · exact Ok.str 60 "number"
        · exact ok) (by omega)
      refine ⟨_, rfl, _, _, .inl (by simp [e2, e3]), some (.d d), rfl, rfl, fun x hx => hd x (by simp [hx]), rfl⟩
  obtain ⟨g2, m2, e3, v10, rfl, h10, _, rfl⟩ := lp
  refine ⟨v10, ?_, h10⟩
  unfold law_13
  simp [e3]
end
end K02
namespace K02
open PySem Dw
section
variable {ns : List Int} {L : Int} {T : List D}
theorem nx1 : noX none = none := rfl
theorem nx2 (x : D) : noX (some (.d x)) = some (.d x) := rfl
theorem nx3 (x : Nat) : noX (some (.cel x)) = some (.cel x) := rfl
theorem nx4 (x : List Int) : noX (some (.scr x)) = some (.scr x) := rfl
theorem nx5 (ks : List Str) (ds : List D) : noX (some (.exn ks ds)) = none := rfl
theorem draw_ok {a5 a6 a7 a8 a9 a10 a11 a13 : Option Ar} {i : MI} {mu mu1 : Mu} {ds : List D} (h1 : 1 ≤ L) (h3 : L ≤ 3) (hi : i [some (.scr ns), some (.cel 0), some (.d (.int L)), some (.d (.tup T)), some (.d (mach L (.tup T))), a5, a6, a7, a8, a9, a10, a11, none, a13, none, none, none, none] mu = .ok ds mu1) (hb : Bx mu1 0) (hl : ds.length ≤ 1000) : ∃ row mu', mLc [12] i (gN 12) mYes (mCall 2 M_law_take (mCons (mVar 1) (mCons (mVar 2) mNil))) [some (.scr ns), some (.cel 0), some (.d (.int L)), some (.d (.tup T)), some (.d (mach L (.tup T))), a5, a6, a7, a8, a9, a10, a11, none, a13, none, none, none, none] mu = .ok (.d (.lst row)) mu' ∧ Bx mu' 0 ∧ row.length = ds.length ∧ ∀ d ∈ row, isW 0 (L - 1) d = true := by
  obtain ⟨row, mu', e, ⟨h2, _⟩, hY⟩ := lc_inv (vs := [12]) (t := gN 12) (me := (mCall 2 M_law_take (mCons (mVar 1) (mCons (mVar 2) mNil)))) (fun m => Bx m 0 ∧ m.length = mu1.length) (fun _ y => isW 0 (L - 1) y = true) (fun m h => h.2) hi ⟨hb, rfl⟩ (by omega) fun d hd acc m ⟨hbm, hlm⟩ => by
    obtain ⟨z, m2, e, b2, z0, z1⟩ := cell_ok (n := L) (r := [.lst acc]) hbm (by omega) (by omega)
    exact ⟨_, .int z, m2, rfl, by simp [wipeG, e], ⟨b2.bx hbm, by rw [b2.len]; exact hlm⟩, by simp [isW]; omega⟩
  exact ⟨row, mu', e, h2, hY.length.symm, fun d hd => hY.all (P := fun y => isW 0 (L - 1) y = true) (fun _ _ h => h) d hd⟩
theorem row_dok {row : List D} (hr : ∀ d ∈ row, isW 0 (L - 1) d = true) : dok (.tup row) = true := by
  refine (Ok.tup (k := 0) fun x hx => ?_).1
  obtain ⟨i, rfl, _⟩ := isW_int (hr x hx)
  exact Ok.int 0 i
theorem row_is {row : List D} (mu : Mu) (hr : ∀ d ∈ row, isW 0 (L - 1) d = true) (hl : row.length ≤ 16777216) : M_is_row [.d (.tup row), .d (.int L)] mu = .ok (.d (.bl true)) mu := by
  have e := row_ok L mu (row_dok hr) (fun xs h => by cases h; exact hl)
  have e2 : isRow L (.tup row) = true := by simp [isRow]; exact hr
  rw [e, e2]
theorem st_14 (h : Tb L T) {w : D} {v7 v8 v9 v10 : Option Ar} (h7 : noX v7 = v7) (mu : Mu) (hb : Bx mu 0) : ∃ v7' v11 v13 mu', law_14 [some (.scr ns), some (.cel 0), some (.d (.int L)), some (.d (.tup T)), some (.d (mach L (.tup T))), some (.d (mach L w)), some (.cel 3), v7, v8, v9, v10, none, none, none, none, none, none, none] mu = .nx [some (.scr ns), some (.cel 0), some (.d (.int L)), some (.d (.tup T)), some (.d (mach L (.tup T))), some (.d (mach L w)), some (.cel 3), v7', v8, v9, v10, v11, none, v13, none, none, none, none] mu' ∧ Bx mu' 0 ∧ noX v7' = v7' ∧ noX v11 = v11 ∧ noX v13 = v13 := by
  have lp := forL_inv (t := gN 7) (b := (mSeq (mAsg (mCB fTuple (mCons (mLc [12] (mRng1 (mCons (mCall 2 M_law_take (mCons (mVar 1) (mCons (mC (.int 21)) mNil))) mNil)) (gN 12) mYes (mCall 2 M_law_take (mCons (mVar 1) (mCons (mVar 2) mNil)))) mNil)) (gN 11))
    (mSeq (mAsg (mMeth "Machine" "after" 1 M_Machine_after (mVar 4) (mCons (mVar 11) mNil)) (gN 13))
    (mIfS (mOr (mB (mBin (fIsB true) (mCall 2 M_is_row (mCons (mVar 11) (mCons (mVar 2) mNil))) (mC (.bl true)))) (mOr (mNot (mB (mCall 1 M_law_whole (mCons (mVar 13) mNil)))) (mB (mBin (fEq true) (mVar 13) (mCall 2 M_law_after (mCons (mVar 3) (mCons (mVar 11) mNil)))))))
    (mRet (mC (.bl false)))
    mSkip))))
    (fun ds g m => ∃ v7 v11 v13, Bx m 0 ∧ noX v7 = v7 ∧ noX v11 = v11 ∧ noX v13 = v13 ∧ g = [some (.scr ns), some (.cel 0), some (.d (.int L)), some (.d (.tup T)), some (.d (mach L (.tup T))), some (.d (mach L w)), some (.cel 3), v7, v8, v9, v10, v11, none, v13, none, none, none, none])
    (rngD 0 6) [some (.scr ns), some (.cel 0), some (.d (.int L)), some (.d (.tup T)), some (.d (mach L (.tup T))), some (.d (mach L w)), some (.cel 3), v7, v8, v9, v10, none, none, none, none, none, none, none] mu ⟨v7, none, none, hb, h7, rfl, rfl, rfl⟩ fun d ds g m ⟨v7, v11, v13, hbm, _, _, _, hg⟩ => by
      subst hg
      obtain ⟨z, m1, e1, b1, z0, z1⟩ := take_ok 0 21 m hbm (by omega) (by omega)
      have y1 : z < 4611686018427387904 := by omega
      have y2 : -4611686018427387904 ≤ z := by omega
      obtain ⟨row, m2, e2, hb2, hl, hr⟩ := draw_ok (ns := ns) (L := L) (T := T) (a5 := some (.d (mach L w))) (a6 := some (.cel 3)) (a7 := some (.d d)) (a8 := v8) (a9 := v9) (a10 := v10) (a11 := v11) (a13 := v13) (i := (mRng1 (mCons (mCall 2 M_law_take (mCons (mVar 1) (mCons (mC (.int 21)) mNil))) mNil))) (mu := m) (mu1 := m1) (ds := rngD 0 z.toNat) h.l1 h.l3 (by simp [e1, y1, y2]) (b1.bx hbm) (by rw [rng_len]; omega)
      rw [rng_len] at hl
      have e3 := after_ok (L := L) (row := row) m2 h.rows h.n1 hr (row_dok hr) (by omega)
      have e4 := law_after_ok (row := row) m2 h.rows h.n1 hr
      have e5 := row_is m2 hr (by omega)
      have e6 := whole_ok (x := .int (row.foldl (stepD T) 0)) m2 rfl
      refine ⟨_, rfl, [some (.scr ns), some (.cel 0), some (.d (.int L)), some (.d (.tup T)), some (.d (mach L (.tup T))), some (.d (mach L w)), some (.cel 3), some (.d d), v8, v9, v10, some (.d (.tup row)), none, some (.d (.int (row.foldl (stepD T) 0))), none, none, none, none], m2, .inl ?_, some (.d d), some (.d (.tup row)), some (.d (.int (row.foldl (stepD T) 0))), hb2, rfl, rfl, rfl, rfl⟩
      have q0 : (mAsg (mCB fTuple (mCons (mLc [12] (mRng1 (mCons (mCall 2 M_law_take (mCons (mVar 1) (mCons (mC (.int 21)) mNil))) mNil)) (gN 12) mYes (mCall 2 M_law_take (mCons (mVar 1) (mCons (mVar 2) mNil)))) mNil)) (gN 11)) [some (.scr ns), some (.cel 0), some (.d (.int L)), some (.d (.tup T)), some (.d (mach L (.tup T))), some (.d (mach L w)), some (.cel 3), some (.d d), v8, v9, v10, v11, none, v13, none, none, none, none] m = .nx [some (.scr ns), some (.cel 0), some (.d (.int L)), some (.d (.tup T)), some (.d (mach L (.tup T))), some (.d (mach L w)), some (.cel 3), some (.d d), v8, v9, v10, some (.d (.tup row)), none, v13, none, none, none, none] m2 := by
        simp [e2]
      have q1 : (mAsg (mMeth "Machine" "after" 1 M_Machine_after (mVar 4) (mCons (mVar 11) mNil)) (gN 13)) [some (.scr ns), some (.cel 0), some (.d (.int L)), some (.d (.tup T)), some (.d (mach L (.tup T))), some (.d (mach L w)), some (.cel 3), some (.d d), v8, v9, v10, some (.d (.tup row)), none, v13, none, none, none, none] m2 = .nx [some (.scr ns), some (.cel 0), some (.d (.int L)), some (.d (.tup T)), some (.d (mach L (.tup T))), some (.d (mach L w)), some (.cel 3), some (.d d), v8, v9, v10, some (.d (.tup row)), none, some (.d (.int (row.foldl (stepD T) 0))), none, none, none, none] m2 := by
        simp [insOf_mach, s3, e3]
      have q2 : (mB (mBin (fIsB true) (mCall 2 M_is_row (mCons (mVar 11) (mCons (mVar 2) mNil))) (mC (.bl true)))) [some (.scr ns), some (.cel 0), some (.d (.int L)), some (.d (.tup T)), some (.d (mach L (.tup T))), some (.d (mach L w)), some (.cel 3), some (.d d), v8, v9, v10, some (.d (.tup row)), none, some (.d (.int (row.foldl (stepD T) 0))), none, none, none, none] m2 = .ok false m2 := by
        simp [e5]
      have q3 : (mNot (mB (mCall 1 M_law_whole (mCons (mVar 13) mNil)))) [some (.scr ns), some (.cel 0), some (.d (.int L)), some (.d (.tup T)), some (.d (mach L (.tup T))), some (.d (mach L w)), some (.cel 3), some (.d d), v8, v9, v10, some (.d (.tup row)), none, some (.d (.int (row.foldl (stepD T) 0))), none, none, none, none] m2 = .ok false m2 := by
        simp [e6, isI]
      have q4 : (mB (mBin (fEq true) (mVar 13) (mCall 2 M_law_after (mCons (mVar 3) (mCons (mVar 11) mNil))))) [some (.scr ns), some (.cel 0), some (.d (.int L)), some (.d (.tup T)), some (.d (mach L (.tup T))), some (.d (mach L w)), some (.cel 3), some (.d d), v8, v9, v10, some (.d (.tup row)), none, some (.d (.int (row.foldl (stepD T) 0))), none, none, none, none] m2 = .ok false m2 := by
        simp [e4]
      simp only [List.set_cons_succ, List.set_cons_zero]
      rw [mSeq_ap, q0, sq_nx, mSeq_ap, q1, sq_nx, mIfS_ap, mOr_ap, q2, bd_ok, if_neg Bool.false_ne_true, mOr_ap, q3, bd_ok, if_neg Bool.false_ne_true, q4]
      rfl
  obtain ⟨g2, m2, e3, v7', v11, v13, hb2, h7, h11, h13, rfl⟩ := lp
  refine ⟨v7', v11, v13, m2, ?_, hb2, h7, h11, h13⟩
  unfold law_14
  simp [e3]
theorem st_15 (h : Tb L T) {w : D} {v7 v8 v9 v10 v11 v13 : Option Ar} (mu : Mu) (hb : Bx mu 0) : ∃ row mu', law_15 [some (.scr ns), some (.cel 0), some (.d (.int L)), some (.d (.tup T)), some (.d (mach L (.tup T))), some (.d (mach L w)), some (.cel 3), v7, v8, v9, v10, v11, none, v13, none, none, none, none] mu = .nx [some (.scr ns), some (.cel 0), some (.d (.int L)), some (.d (.tup T)), some (.d (mach L (.tup T))), some (.d (mach L w)), some (.cel 3), v7, v8, v9, v10, some (.d (.tup row)), none, v13, none, none, none, none] mu' ∧ Bx mu' 0 ∧ row.length ≤ 16777216 ∧ ∀ d ∈ row, isW 0 (L - 1) d = true := by
  obtain ⟨row, m2, e2, hb2, hl, hr⟩ := draw_ok (ns := ns) (L := L) (T := T) (a5 := some (.d (mach L w))) (a6 := some (.cel 3)) (a7 := v7) (a8 := v8) (a9 := v9) (a10 := v10) (a11 := v11) (a13 := v13) (i := (mRng1 (mCons (mC (.int 40)) mNil))) (mu := mu) (mu1 := mu) (ds := rngD 0 40) h.l1 h.l3 (by simp) hb (by rw [rng_len]; omega)
  rw [rng_len] at hl
  have e3 := rep_ok (xs := row) (k := 60) m2 (by omega) (by omega) (by omega)
  refine ⟨(List.replicate 60 row).flatten, m2, ?_, hb2, ?_, fun d hd => hr d (mem_rep hd)⟩
  · unfold law_15
    simp [e2, e3, -fMulA_tup]
  · simp [hl]
def mx : D → D
  | .int i => .int (if i > 0 then i else 0)
  | d => d
def ml : D → D
  | .tup ys => .tup (ys.map mx)
  | d => d
theorem free_tab (h : Tb L T) : Tb L (T.map ml) := by
  have h1 := h.n1
  have h2 := h.n12
  have hr : ∀ x ∈ T.map ml, isR L (-1) ((T.map ml).length - 1) x = true := by
    intro x hx
    obtain ⟨y, hy, rfl⟩ := List.mem_map.mp hx
    obtain ⟨r, rfl, a, b, _⟩ := h.row hy
    simp [ml, isR, a]
    intro z hz
    obtain ⟨i, rfl, i0, i1⟩ := isW_int (b z hz)
    simp [mx, isW]
    split <;> omega
  have h3 := h.l3
  refine ⟨h.l1, h.l3, by simpa using h1, by simpa using h2, hr, ?_, ?_⟩
  · refine Ok.tup fun x hx => ?_
    obtain ⟨xs, rfl, _, b⟩ := isR_tup (hr x hx)
    refine Ok.tup fun y hy => ?_
    obtain ⟨i, rfl, _⟩ := isW_int (b y hy)
    exact Ok.int 0 i
  · refine .inr ⟨_, rfl, by simp; omega, fun x hx => ?_⟩
    obtain ⟨xs, rfl, a, b⟩ := isR_tup (hr x hx)
    refine .inr ⟨xs, rfl, by omega, fun y hy => ?_⟩
    obtain ⟨i, rfl, i0, i1⟩ := isW_int (b y hy)
    simp at i1
    exact ⟨by omega, by omega⟩
theorem st_16 (h : Tb L T) {w : D} {v7 v8 v9 v10 v11 v13 : Option Ar} {row : List D} (mu : Mu) : law_16 [some (.scr ns), some (.cel 0), some (.d (.int L)), some (.d (.tup T)), some (.d (mach L (.tup T))), some (.d (mach L w)), some (.cel 3), v7, v8, v9, v10, some (.d (.tup row)), none, v13, none, none, none, none] mu = .nx [some (.scr ns), some (.cel 0), some (.d (.int L)), some (.d (.tup T)), some (.d (mach L (.tup T))), some (.d (mach L w)), some (.cel 3), v7, v8, v9, v10, some (.d (.tup row)), none, v13, some (.d (mach L (.tup (T.map ml)))), none, none, none] mu := by
  have h2 := h.n12
  have h3 := h.l3
  have hF := free_tab h
  have q := lc_map (vs := [16]) (i := mItT (mVar 3)) (t := gN 16) (me := (mCB fTuple (mCons (mLc [15] (mItT (mVar 16)) (gN 15) mYes (mCB fMax2 (mCons (mC (.int 0)) (mCons (mVar 15) mNil)))) mNil))) (g := [some (.scr ns), some (.cel 0), some (.d (.int L)), some (.d (.tup T)), some (.d (mach L (.tup T))), some (.d (mach L w)), some (.cel 3), v7, v8, v9, v10, some (.d (.tup row)), none, v13, none, none, none, none]) (mu := mu) (mu1 := mu) (ds := T) (by simp) ml (by omega) fun d hd acc => by
    obtain ⟨r, rfl, a, b, _⟩ := h.row hd
    refine ⟨_, rfl, ?_⟩
    have q2 := lc_map (vs := [15]) (i := mItT (mVar 16)) (t := gN 15) (me := (mCB fMax2 (mCons (mC (.int 0)) (mCons (mVar 15) mNil)))) (g := [some (.scr ns), some (.cel 0), some (.d (.int L)), some (.d (.tup T)), some (.d (mach L (.tup T))), some (.d (mach L w)), some (.cel 3), v7, v8, v9, v10, some (.d (.tup row)), none, v13, none, none, some (.d (.tup r)), none]) (mu := mu ++ [.lst acc]) (mu1 := mu ++ [.lst acc]) (ds := r) (by simp) mx (by omega) fun d hd acc => by
      obtain ⟨i, rfl, i0, i1⟩ := isW_int (b d hd)
      exact ⟨_, rfl, by simp [wipeG, mx]⟩
    simp [wipeG, q2, ml]
  have e := make_ok (L := L) (v := .tup (T.map ml)) (g := [some (.scr ns), some (.cel 0), some (.d (.int L)), some (.d (.tup T)), some (.d (mach L (.tup T))), some (.d (mach L w)), some (.cel 3), v7, v8, v9, v10, some (.d (.tup row)), none, v13, none, none, none, none]) (m := mu) (m1 := mu) (a := (mCons (mVar 2) (mCons (mCB fTuple (mCons (mLc [16] (mItT (mVar 3)) (gN 16) mYes (mCB fTuple (mCons (mLc [15] (mItT (mVar 16)) (gN 15) mYes (mCB fMax2 (mCons (mC (.int 0)) (mCons (mVar 15) mNil)))) mNil))) mNil)) mNil))) (by simp [q]) hF.ok.1 h.l1 h.l3 hF.tab
  unfold law_16
  rw [mAsg_ap, e]
  rfl
theorem st_17 (h : Tb L T) {F : List D} (hF : Tb L F) {w : D} {v7 v8 v9 v10 v11 v13 : Option Ar} {row : List D} (mu : Mu) (hl : row.length ≤ 16777216) (hr : ∀ d ∈ row, isW 0 (L - 1) d = true) : law_17 [some (.scr ns), some (.cel 0), some (.d (.int L)), some (.d (.tup T)), some (.d (mach L (.tup T))), some (.d (mach L w)), some (.cel 3), v7, v8, v9, v10, some (.d (.tup row)), none, v13, some (.d (mach L (.tup F))), none, none, none] mu = .nx [some (.scr ns), some (.cel 0), some (.d (.int L)), some (.d (.tup T)), some (.d (mach L (.tup T))), some (.d (mach L w)), some (.cel 3), v7, v8, v9, v10, some (.d (.tup row)), none, v13, some (.d (mach L (.tup F))), none, none, none] mu := by
  have e3 := after_ok (L := L) (row := row) mu h.rows h.n1 hr (row_dok hr) hl
  have e4 := law_after_ok (row := row) mu h.rows h.n1 hr
  have e5 := row_is mu hr hl
  have e6 := after_ok (L := L) (row := row) mu hF.rows hF.n1 hr (row_dok hr) hl
  have e7 := law_after_ok (row := row) mu hF.rows hF.n1 hr
  have q1 : (mB (mBin (fEq true) (mMeth "Machine" "after" 1 M_Machine_after (mVar 4) (mCons (mVar 11) mNil)) (mCall 2 M_law_after (mCons (mVar 3) (mCons (mVar 11) mNil))))) [some (.scr ns), some (.cel 0), some (.d (.int L)), some (.d (.tup T)), some (.d (mach L (.tup T))), some (.d (mach L w)), some (.cel 3), v7, v8, v9, v10, some (.d (.tup row)), none, v13, some (.d (mach L (.tup F))), none, none, none] mu = .ok false mu := by
    simp [insOf_mach, s3, e3, e4]
  have q2 : (mB (mBin (fEq true) (mMeth "Machine" "after" 1 M_Machine_after (mVar 14) (mCons (mVar 11) mNil)) (mCall 2 M_law_after (mCons (mFld "Machine" "table" (mVar 14)) (mCons (mVar 11) mNil))))) [some (.scr ns), some (.cel 0), some (.d (.int L)), some (.d (.tup T)), some (.d (mach L (.tup T))), some (.d (mach L w)), some (.cel 3), v7, v8, v9, v10, some (.d (.tup row)), none, v13, some (.d (mach L (.tup F))), none, none, none] mu = .ok false mu := by
    simp [insOf_mach, s3, e6, e7, lkF, s2]
  have q3 : (mB (mBin (fIsB true) (mCall 2 M_is_row (mCons (mVar 11) (mCons (mVar 2) mNil))) (mC (.bl true)))) [some (.scr ns), some (.cel 0), some (.d (.int L)), some (.d (.tup T)), some (.d (mach L (.tup T))), some (.d (mach L w)), some (.cel 3), v7, v8, v9, v10, some (.d (.tup row)), none, v13, some (.d (mach L (.tup F))), none, none, none] mu = .ok false mu := by
    simp [e5]
  unfold law_17
  rw [mIfS_ap, mOr_ap, q1, bd_ok, if_neg Bool.false_ne_true, mOr_ap, q2, bd_ok, if_neg Bool.false_ne_true, q3]
  rfl
theorem st_18 (h : Tb L T) {F : List D} {w : D} {v7 v8 v9 v10 v11 v13 : Option Ar} (h7 : noX v7 = v7) (h8 : noX v8 = v8) (h9 : noX v9 = v9) (h10 : noX v10 = v10) (h13 : noX v13 = v13) {row : List D} (mu : Mu) : ∃ v10', law_18 [some (.scr ns), some (.cel 0), some (.d (.int L)), some (.d (.tup T)), some (.d (mach L (.tup T))), some (.d (mach L w)), some (.cel 3), v7, v8, v9, v10, some (.d (.tup row)), none, v13, some (.d (mach L (.tup F))), none, none, none] mu = .nx [some (.scr ns), some (.cel 0), some (.d (.int L)), some (.d (.tup T)), some (.d (mach L (.tup T))), some (.d (mach L w)), some (.cel 3), v7, v8, v9, v10', some (.d (.tup row)), none, v13, some (.d (mach L (.tup F))), none, none, none] mu := by
  have lp := forL_inv (t := gN 10) (b := (mSeq (mIfS (mB (mBin (fIsB true) (mCall 2 M_is_row (mCons (mVar 10) (mCons (mVar 2) mNil))) (mC (.bl false))))
    (mRet (mC (.bl false)))
    mSkip)
    (mTry ["InvalidNumber", "InvalidTable", "InvalidRow"] (mSeq (mDrop (mMeth "Machine" "after" 1 M_Machine_after (mVar 4) (mCons (mVar 10) mNil)))
    (mRet (mC (.bl false))))
    [⟨"InvalidRow", (some 17), (mIfS (mB (mBin (fEq true) (mXf "value" (mVar 17)) (mVar 10)))
    (mRet (mC (.bl false)))
    mSkip)⟩])))
    (fun ds g m => ∃ v10, m = mu ∧ noX v10 = v10 ∧ (∀ d ∈ ds, Ok 60 d ∧ isRow L d = false ∧ ∀ xs, d = .tup xs → xs.length ≤ 16777216) ∧ g = [some (.scr ns), some (.cel 0), some (.d (.int L)), some (.d (.tup T)), some (.d (mach L (.tup T))), some (.d (mach L w)), some (.cel 3), v7, v8, v9, v10, some (.d (.tup row)), none, v13, some (.d (mach L (.tup F))), none, none, none])
    [.lst [.int 0], .tup [.int L], .tup [.int (-1)], .tup [.bl true], .non, .int 0, .str "0", .tup [.tup [.int 0]]] [some (.scr ns), some (.cel 0), some (.d (.int L)), some (.d (.tup T)), some (.d (mach L (.tup T))), some (.d (mach L w)), some (.cel 3), v7, v8, v9, v10, some (.d (.tup row)), none, v13, some (.d (mach L (.tup F))), none, none, none] mu ⟨v10, rfl, h10, by
      simp only [List.forall_mem_cons]
      have o1 : ∀ x, Ok 0 x → Ok 60 (.tup [x]) := fun x hx => (Ok.tup (k := 0) fun y hy => by rw [List.mem_singleton.mp hy]; exact hx).mono (by omega)
      refine ⟨⟨?_, by simp [isRow], by simp⟩, ⟨o1 _ (Ok.int _ _), by simp [isRow, isW] <;> omega, by simp⟩, ⟨o1 _ (Ok.int _ _), by simp [isRow, isW], by simp⟩, ⟨o1 _ (Ok.bl _ _), by simp [isRow, isW], by simp⟩, ⟨Ok.non _, by simp [isRow], by simp⟩, ⟨Ok.int _ _, by simp [isRow], by simp⟩, ⟨Ok.str _ _, by simp [isRow], by simp⟩, ⟨?_, by simp [isRow, isW], by simp⟩, by simp⟩
      · exact (Ok.lst (k := 0) fun y hy => by rw [List.mem_singleton.mp hy]; exact Ok.int _ _).mono (by omega)
      · exact (Ok.tup (k := 1) fun y hy => by
          rw [List.mem_singleton.mp hy]
          exact Ok.tup (k := 0) fun y hy => by rw [List.mem_singleton.mp hy]; exact Ok.int _ _).mono (by omega), rfl⟩ fun d ds g m ⟨v10, e, _, hd, hg⟩ => by
      subst e hg
      obtain ⟨ok, hw, hlen⟩ := hd d (by simp)
      have e1 := row_ok L m ok.1 hlen
      have e2 := after_bad (L := L) (T := T) m ok.1 hlen hw
      have e3 := ne_same m ok (by omega)
      rw [hw] at e1
      refine ⟨_, rfl, [some (.scr ns), some (.cel 0), some (.d (.int L)), some (.d (.tup T)), some (.d (mach L (.tup T))), some (.d (mach L w)), some (.cel 3), v7, v8, v9, some (.d d), some (.d (.tup row)), none, v13, some (.d (mach L (.tup F))), none, none, none], m, .inl ?_, some (.d d), rfl, rfl, fun x hx => hd x (by simp [hx]), rfl⟩
      simp only [List.set_cons_succ, List.set_cons_zero]
      have q1 : (mIfS (mB (mBin (fIsB true) (mCall 2 M_is_row (mCons (mVar 10) (mCons (mVar 2) mNil))) (mC (.bl false))))
    (mRet (mC (.bl false)))
    mSkip) [some (.scr ns), some (.cel 0), some (.d (.int L)), some (.d (.tup T)), some (.d (mach L (.tup T))), some (.d (mach L w)), some (.cel 3), v7, v8, v9, some (.d d), some (.d (.tup row)), none, v13, some (.d (mach L (.tup F))), none, none, none] m = .nx [some (.scr ns), some (.cel 0), some (.d (.int L)), some (.d (.tup T)), some (.d (mach L (.tup T))), some (.d (mach L w)), some (.cel 3), v7, v8, v9, some (.d d), some (.d (.tup row)), none, v13, some (.d (mach L (.tup F))), none, none, none] m := by
        simp [e1]
      have q2 : (mSeq (mDrop (mMeth "Machine" "after" 1 M_Machine_after (mVar 4) (mCons (mVar 10) mNil)))
    (mRet (mC (.bl false)))) [some (.scr ns), some (.cel 0), some (.d (.int L)), some (.d (.tup T)), some (.d (mach L (.tup T))), some (.d (mach L w)), some (.cel 3), v7, v8, v9, some (.d d), some (.d (.tup row)), none, v13, some (.d (mach L (.tup F))), none, none, none] m = .exc "InvalidRow" ["value"] [d] [some (.scr ns), some (.cel 0), some (.d (.int L)), some (.d (.tup T)), some (.d (mach L (.tup T))), some (.d (mach L w)), some (.cel 3), v7, v8, v9, some (.d d), some (.d (.tup row)), none, v13, some (.d (mach L (.tup F))), none, none, none] m := by
        simp [insOf_mach, s3, e2]
      rw [mSeq_ap, q1, sq_nx]
      unfold mTry
      rw [q2]
      simp [hdlL, inH, outH, clr, nx1, nx2, nx3, nx4, nx5, h7, h8, h9, h13, lkF, e3]
  obtain ⟨g2, m2, e3, v10, rfl, _, _, rfl⟩ := lp
  refine ⟨v10, ?_⟩
  unfold law_18
  simp [e3]
end
theorem M_law_true : ∀ ns : List Int, ns.length ≤ 63 → ∃ m, M_law [.scr ns] [] = .ok (.d (.bl true)) m := by
  intro ns _
  have fin : (∃ m', m_law [some (.scr ns), none, none, none, none, none, none, none, none, none, none, none, none, none, none, none, none, none] [] = .rt (.d (.bl true)) m') → ∃ m, M_law [.scr ns] [] = .ok (.d (.bl true)) m := fun ⟨m', e⟩ => by
    refine ⟨m'.take 0, ?_⟩
    unfold M_law
    rw [fnM_ap]
    show RS.fn 0 (m_law [some (.scr ns), none, none, none, none, none, none, none, none, none, none, none, none, none, none, none, none, none] []) = _
    rw [e]
    rfl
  apply fin
  rw [law_is]
  obtain ⟨x0, y0, e0, x00, y00⟩ := box_ok ns 0 [] (by omega)
  refine seq_go (g1 := [some (.scr ns), some (.cel 0), none, none, none, none, none, none, none, none, none, none, none, none, none, none, none, none]) (m1 := [bx x0 y0]) (by unfold law_1; simp at e0; simp [e0]) ?_
  have hb0 : Bx [bx x0 y0] 0 := ⟨x0, y0, rfl, x00, y00⟩
  obtain ⟨l, m1, e1, b1, l0, l1⟩ := take_ok 0 3 _ hb0 (by omega) (by omega)
  have hb1 := b1.bx hb0
  have hm1 : m1.length = 1 := b1.len
  obtain ⟨L, hL⟩ : ∃ L, L = 1 + l := ⟨_, rfl⟩
  refine seq_go (g1 := [some (.scr ns), some (.cel 0), some (.d (.int L)), none, none, none, none, none, none, none, none, none, none, none, none, none, none, none]) (m1 := m1) (by unfold law_2; simp [e1, hL]) ?_
  obtain ⟨x1, y1, e2, x10, y10⟩ := box_ok ns 1 m1 (by omega)
  have hb2 : Bx (m1 ++ [bx x1 y1]) 1 := ⟨x1, y1, by rw [get_last hm1], x10, y10⟩
  obtain ⟨v, m2, e3, b2, ht, hlv⟩ := gen_ok (L := L) (most := 12) hb2 (by omega) (by omega) (by omega) (by omega)
  obtain ⟨T, rfl, n1, n12, hrows⟩ := isTab_tup ht
  have h : Tb L T := ⟨by omega, by omega, n1, n12, hrows, hlv.ok, hlv⟩
  have hm2 : m2.length = 2 := by rw [b2.len]; simp [hm1]
  have hb3 : Bx m2 0 := by
    obtain ⟨x, y, e, q⟩ := hb1.app [bx x1 y1]
    exact ⟨x, y, by rw [b2.get (by omega), e], q⟩
  refine seq_go (g1 := [some (.scr ns), some (.cel 0), some (.d (.int L)), some (.d (.tup T)), none, none, none, none, none, none, none, none, none, none, none, none, none, none]) (m1 := m2) (by unfold law_3; rw [hm1] at e2; simp [e2, e3]) ?_
  refine seq_go (g1 := [some (.scr ns), some (.cel 0), some (.d (.int L)), some (.d (.tup T)), some (.d (mach L (.tup T))), none, none, none, none, none, none, none, none, none, none, none, none, none]) (m1 := m2) (by
    unfold law_4
    rw [mAsg_ap, make_ok (L := L) (v := .tup T) (m1 := m2) (by simp) h.ok.1 h.l1 h.l3 h.tab]
    rfl) ?_
  refine seq_go (st_5 h m2) ?_
  refine seq_go (st_6 h m2) ?_
  obtain ⟨w, e7, ok7, d7⟩ := st_7 (ns := ns) h m2
  refine seq_go e7 ?_
  refine seq_go (st_8 h m2 ok7 d7) ?_
  obtain ⟨vs, e9, l9, o9⟩ := st_9 (ns := ns) (w := w) h m2
  rw [hm2] at e9
  refine seq_go e9 ?_
  obtain ⟨ws, e10, l10, o10⟩ := st_10 (ns := ns) (w := w) h m2 vs l9 o9 hm2
  refine seq_go e10 ?_
  obtain ⟨m4, xs, v7, e11, hb4, hm4, l11, o11, h7⟩ := st_11 (ns := ns) (w := w) h (m2 ++ [.lst vs]) ws (hb3.app _) l10 o10 (by simp [hm2])
  refine seq_go e11 ?_
  obtain ⟨v8, v9, e12, h8, h9⟩ := st_12 (ns := ns) (w := w) (v7 := v7) h m4 xs l11 o11 hm4
  refine seq_go e12 ?_
  obtain ⟨v10, e13, h10⟩ := st_13 (ns := ns) (w := w) (v7 := v7) (v8 := v8) (v9 := v9) h (m4 ++ [.lst xs])
  refine seq_go e13 ?_
  obtain ⟨v7', v11, v13, m5, e14, hb5, h7', h11, h13⟩ := st_14 (ns := ns) (w := w) (v8 := v8) (v9 := v9) (v10 := v10) h h7 (m4 ++ [.lst xs]) (hb4.app _)
  refine seq_go e14 ?_
  obtain ⟨row, m6, e15, hb6, hl6, hr6⟩ := st_15 (ns := ns) (w := w) (v7 := v7') (v8 := v8) (v9 := v9) (v10 := v10) (v11 := v11) (v13 := v13) h m5 hb5
  refine seq_go e15 ?_
  refine seq_go (st_16 (v11 := v11) h m6) ?_
  refine seq_go (st_17 (v11 := v11) h (free_tab h) m6 hl6 hr6) ?_
  obtain ⟨v10', e18⟩ := st_18 (ns := ns) (F := T.map ml) (w := w) (v11 := v11) h h7' h8 h9 h10 h13 (row := row) m6
  refine seq_go e18 ?_
  exact ⟨m6, by unfold law_19; simp⟩
end K02
namespace K02
open PySem PySem.Spec PyProof.Rows L2 Dw
def top (i : Nat) : Stmt := PySem.Challenge.pw_dutyweeks_k02_machines.main.body.getD i (.Pass ⟨0, 0, 0, 0⟩)
abbrev s_is_integer : Stmt := (top 6)
abbrev n_is_integer : List Str := ["value"]
theorem sc_is_integer : FnScope ["value"] ["value"] (defScope s_is_integer) := ⟨rfl, rfl, rfl, by decide +kernel, rfl, by decide +kernel, by decide +kernel⟩
abbrev s_is_within : Stmt := (top 7)
abbrev n_is_within : List Str := ["value", "low", "high"]
theorem sc_is_within : FnScope ["value", "low", "high"] ["value", "low", "high"] (defScope s_is_within) := ⟨rfl, rfl, rfl, by decide +kernel, rfl, by decide +kernel, by decide +kernel⟩
abbrev s_is_tuple : Stmt := (top 8)
abbrev n_is_tuple : List Str := ["value", "least", "most"]
theorem sc_is_tuple : FnScope ["value", "least", "most"] ["value", "least", "most"] (defScope s_is_tuple) := ⟨rfl, rfl, rfl, by decide +kernel, rfl, by decide +kernel, by decide +kernel⟩
abbrev s_are_within : Stmt := (top 9)
abbrev n_are_within : List Str := ["value", "many", "low", "high", "part"]
theorem sc_are_within : FnScope ["value", "many", "low", "high", "part"] ["value", "many", "low", "high"] (defScope s_are_within) := ⟨rfl, rfl, rfl, by decide +kernel, rfl, by decide +kernel, by decide +kernel⟩
abbrev s_is_row : Stmt := (top 12)
abbrev n_is_row : List Str := ["value", "letters", "letter"]
theorem sc_is_row : FnScope ["value", "letters", "letter"] ["value", "letters"] (defScope s_is_row) := ⟨rfl, rfl, rfl, by decide +kernel, rfl, by decide +kernel, by decide +kernel⟩
abbrev s_is_table : Stmt := (top 13)
abbrev n_is_table : List Str := ["value", "letters", "row"]
theorem sc_is_table : FnScope ["value", "letters", "row"] ["value", "letters"] (defScope s_is_table) := ⟨rfl, rfl, rfl, by decide +kernel, rfl, by decide +kernel, by decide +kernel⟩
abbrev s_Machine_init : Stmt := inClass (top 14) 0
abbrev n_Machine_init : List Str := ["self", "letters", "table"]
theorem sc_Machine_init : FnScope ["self", "letters", "table"] ["self", "letters", "table"] (defScope s_Machine_init) := ⟨rfl, rfl, rfl, by decide +kernel, rfl, by decide +kernel, by decide +kernel⟩
abbrev s_Machine_len : Stmt := inClass (top 14) 1
abbrev n_Machine_len : List Str := ["self"]
theorem sc_Machine_len : FnScope ["self"] ["self"] (defScope s_Machine_len) := ⟨rfl, rfl, rfl, by decide +kernel, rfl, by decide +kernel, by decide +kernel⟩
abbrev s_Machine_eq : Stmt := inClass (top 14) 2
abbrev n_Machine_eq : List Str := ["self", "other"]
theorem sc_Machine_eq : FnScope ["self", "other"] ["self", "other"] (defScope s_Machine_eq) := ⟨rfl, rfl, rfl, by decide +kernel, rfl, by decide +kernel, by decide +kernel⟩
abbrev s_Machine_after : Stmt := inClass (top 14) 3
abbrev n_Machine_after : List Str := ["self", "row", "state", "letter"]
theorem sc_Machine_after : FnScope ["self", "row", "state", "letter"] ["self", "row"] (defScope s_Machine_after) := ⟨rfl, rfl, rfl, by decide +kernel, rfl, by decide +kernel, by decide +kernel⟩
abbrev s_law_box : Stmt := (top 16)
abbrev n_law_box : List Str := ["script", "k", "cell", "great"]
theorem sc_law_box : FnScope ["script", "k", "cell", "great"] ["script", "k"] (defScope s_law_box) := ⟨rfl, rfl, rfl, by decide +kernel, rfl, by decide +kernel, by decide +kernel⟩
abbrev s_law_take : Stmt := (top 17)
abbrev n_law_take : List Str := ["box", "many", "got"]
theorem sc_law_take : FnScope ["box", "many", "got"] ["box", "many"] (defScope s_law_take) := ⟨rfl, rfl, rfl, by decide +kernel, rfl, by decide +kernel, by decide +kernel⟩
abbrev s_law_pick : Stmt := (top 18)
abbrev n_law_pick : List Str := ["box", "some"]
theorem sc_law_pick : FnScope ["box", "some"] ["box", "some"] (defScope s_law_pick) := ⟨rfl, rfl, rfl, by decide +kernel, rfl, by decide +kernel, by decide +kernel⟩
abbrev s_law_whole : Stmt := (top 19)
abbrev n_law_whole : List Str := ["value"]
theorem sc_law_whole : FnScope ["value"] ["value"] (defScope s_law_whole) := ⟨rfl, rfl, rfl, by decide +kernel, rfl, by decide +kernel, by decide +kernel⟩
abbrev s_law_is_due : Stmt := (top 20)
abbrev n_law_is_due : List Str := ["told", "due"]
theorem sc_law_is_due : FnScope ["told", "due"] ["told", "due"] (defScope s_law_is_due) := ⟨rfl, rfl, rfl, by decide +kernel, rfl, by decide +kernel, by decide +kernel⟩
abbrev s_law_spoilt : Stmt := (top 21)
abbrev n_law_spoilt : List Str := ["box", "value", "deep", "at", "how"]
theorem sc_law_spoilt : FnScope ["box", "value", "deep", "at", "how"] ["box", "value", "deep"] (defScope s_law_spoilt) := ⟨rfl, rfl, rfl, by decide +kernel, rfl, by decide +kernel, by decide +kernel⟩
abbrev s_law_table : Stmt := (top 22)
abbrev n_law_table : List Str := ["box", "letters", "most", "many", "loose", "rows", "state", "letter"]
theorem sc_law_table : FnScope ["box", "letters", "most", "many", "loose", "rows", "state", "letter"] ["box", "letters", "most"] (defScope s_law_table) := ⟨rfl, rfl, rfl, by decide +kernel, rfl, by decide +kernel, by decide +kernel⟩
abbrev s_law_after : Stmt := (top 23)
abbrev n_law_after : List Str := ["table", "row", "state", "letter"]
theorem sc_law_after : FnScope ["table", "row", "state", "letter"] ["table", "row"] (defScope s_law_after) := ⟨rfl, rfl, rfl, by decide +kernel, rfl, by decide +kernel, by decide +kernel⟩
abbrev s_law_is_table : Stmt := (top 24)
abbrev n_law_is_table : List Str := ["value", "letters", "row", "one"]
theorem sc_law_is_table : FnScope ["value", "letters", "row", "one"] ["value", "letters"] (defScope s_law_is_table) := ⟨rfl, rfl, rfl, by decide +kernel, rfl, by decide +kernel, by decide +kernel⟩
abbrev s_law_told : Stmt := (top 25)
abbrev n_law_told : List Str := ["letters", "table", "made", "e"]
theorem sc_law_told : FnScope ["letters", "table", "made", "e"] ["letters", "table"] (defScope s_law_told) := ⟨rfl, rfl, rfl, by decide +kernel, rfl, by decide +kernel, by decide +kernel⟩
abbrev s_law : Stmt := (top 26)
abbrev n_law : List Str := ["script", "box", "letters", "table", "made", "twice", "values", "k", "value", "due", "odd", "row", "day", "told", "free", "one", "line", "e"]
theorem sc_law : FnScope ["script", "box", "letters", "table", "made", "twice", "values", "k", "value", "due", "odd", "row", "day", "told", "free", "one", "line", "e"] ["script"] (defScope s_law) := ⟨rfl, rfl, rfl, by decide +kernel, rfl, by decide +kernel, by decide +kernel⟩
abbrev s_InvalidNumber_init : Stmt := inClass (top 2) 0
theorem sc_InvalidNumber_init : FnScope ["self", "value"] ["self", "value"] (defScope s_InvalidNumber_init) := ⟨rfl, rfl, rfl, by decide +kernel, rfl, by decide +kernel, by decide +kernel⟩
abbrev s_InvalidTable_init : Stmt := inClass (top 3) 0
theorem sc_InvalidTable_init : FnScope ["self", "value"] ["self", "value"] (defScope s_InvalidTable_init) := ⟨rfl, rfl, rfl, by decide +kernel, rfl, by decide +kernel, by decide +kernel⟩
abbrev s_InvalidRow_init : Stmt := inClass (top 4) 0
theorem sc_InvalidRow_init : FnScope ["self", "value"] ["self", "value"] (defScope s_InvalidRow_init) := ⟨rfl, rfl, rfl, by decide +kernel, rfl, by decide +kernel, by decide +kernel⟩
structure Tx (K : PySem.W.Frag) (mg : Str → Option Value) where
  a_Machine : Addr
  m_Machine : mg "Machine" = some (.ref a_Machine)
  i_Machine : ClsI K a_Machine
  self_Machine : PySem.W.kitOne K (.ref a_Machine) (.ref a_Machine) = some true
  not_Machine : ∀ T ∈ ["NoneType", "bool", "int", "str", "tuple", "list"], PySem.W.kitOne K (.type T) (.ref a_Machine) = some false
  tup_Machine : PySem.W.subIn K (.type "tuple") (.ref a_Machine) = some false
  no_Machine_letters : NoAttr K a_Machine "letters"
  no_Machine_table : NoAttr K a_Machine "table"
  f_is_integer : Addr
  fd_is_integer : FuncData
  F_is_integer : Fun K "is_integer" "is_integer" s_is_integer f_is_integer fd_is_integer
  b_is_integer : Binds K fd_is_integer ["value"] []
  m_is_integer : mg "is_integer" = some (.ref f_is_integer)
  f_is_within : Addr
  fd_is_within : FuncData
  F_is_within : Fun K "is_within" "is_within" s_is_within f_is_within fd_is_within
  b_is_within : Binds K fd_is_within ["value", "low", "high"] []
  m_is_within : mg "is_within" = some (.ref f_is_within)
  f_is_tuple : Addr
  fd_is_tuple : FuncData
  F_is_tuple : Fun K "is_tuple" "is_tuple" s_is_tuple f_is_tuple fd_is_tuple
  b_is_tuple : Binds K fd_is_tuple ["value", "least", "most"] []
  m_is_tuple : mg "is_tuple" = some (.ref f_is_tuple)
  f_are_within : Addr
  fd_are_within : FuncData
  F_are_within : Fun K "are_within" "are_within" s_are_within f_are_within fd_are_within
  b_are_within : Binds K fd_are_within ["value", "many", "low", "high"] []
  m_are_within : mg "are_within" = some (.ref f_are_within)
  f_is_row : Addr
  fd_is_row : FuncData
  F_is_row : Fun K "is_row" "is_row" s_is_row f_is_row fd_is_row
  b_is_row : Binds K fd_is_row ["value", "letters"] []
  m_is_row : mg "is_row" = some (.ref f_is_row)
  f_is_table : Addr
  fd_is_table : FuncData
  F_is_table : Fun K "is_table" "is_table" s_is_table f_is_table fd_is_table
  b_is_table : Binds K fd_is_table ["value", "letters"] []
  m_is_table : mg "is_table" = some (.ref f_is_table)
  f_Machine_init : Addr
  fd_Machine_init : FuncData
  F_Machine_init : Fun K "__init__" "Machine.__init__" s_Machine_init f_Machine_init fd_Machine_init
  b_Machine_init : Binds K fd_Machine_init ["self", "letters", "table"] []
  F_Machine_init_fn : PySem.W.isFn K (.ref f_Machine_init) = true
  mk_Machine : Mk K a_Machine f_Machine_init
  f_Machine_len : Addr
  fd_Machine_len : FuncData
  F_Machine_len : Fun K "__len__" "Machine.__len__" s_Machine_len f_Machine_len fd_Machine_len
  b_Machine_len : Binds K fd_Machine_len ["self"] []
  F_Machine_len_fn : PySem.W.isFn K (.ref f_Machine_len) = true
  len_Machine : PySem.W.findIn K (.ref a_Machine) "__len__" = some (some (.ref f_Machine_len))
  f_Machine_eq : Addr
  fd_Machine_eq : FuncData
  F_Machine_eq : Fun K "__eq__" "Machine.__eq__" s_Machine_eq f_Machine_eq fd_Machine_eq
  b_Machine_eq : Binds K fd_Machine_eq ["self", "other"] []
  F_Machine_eq_fn : PySem.W.isFn K (.ref f_Machine_eq) = true
  eq_Machine : PySem.W.findIn K (.ref a_Machine) "__eq__" = some (some (.ref f_Machine_eq))
  f_Machine_after : Addr
  fd_Machine_after : FuncData
  F_Machine_after : Fun K "after" "Machine.after" s_Machine_after f_Machine_after fd_Machine_after
  b_Machine_after : Binds K fd_Machine_after ["self", "row"] []
  F_Machine_after_fn : PySem.W.isFn K (.ref f_Machine_after) = true
  mt_Machine_after : Meth K a_Machine "after" f_Machine_after
  f_law_box : Addr
  fd_law_box : FuncData
  F_law_box : Fun K "_law_box" "_law_box" s_law_box f_law_box fd_law_box
  b_law_box : Binds K fd_law_box ["script", "k"] []
  m_law_box : mg "_law_box" = some (.ref f_law_box)
  f_law_take : Addr
  fd_law_take : FuncData
  F_law_take : Fun K "_law_take" "_law_take" s_law_take f_law_take fd_law_take
  b_law_take : Binds K fd_law_take ["box", "many"] []
  m_law_take : mg "_law_take" = some (.ref f_law_take)
  f_law_pick : Addr
  fd_law_pick : FuncData
  F_law_pick : Fun K "_law_pick" "_law_pick" s_law_pick f_law_pick fd_law_pick
  b_law_pick : Binds K fd_law_pick ["box", "some"] []
  m_law_pick : mg "_law_pick" = some (.ref f_law_pick)
  f_law_whole : Addr
  fd_law_whole : FuncData
  F_law_whole : Fun K "_law_whole" "_law_whole" s_law_whole f_law_whole fd_law_whole
  b_law_whole : Binds K fd_law_whole ["value"] []
  m_law_whole : mg "_law_whole" = some (.ref f_law_whole)
  f_law_is_due : Addr
  fd_law_is_due : FuncData
  F_law_is_due : Fun K "_law_is_due" "_law_is_due" s_law_is_due f_law_is_due fd_law_is_due
  b_law_is_due : Binds K fd_law_is_due ["told", "due"] []
  m_law_is_due : mg "_law_is_due" = some (.ref f_law_is_due)
  f_law_spoilt : Addr
  fd_law_spoilt : FuncData
  F_law_spoilt : Fun K "_law_spoilt" "_law_spoilt" s_law_spoilt f_law_spoilt fd_law_spoilt
  b_law_spoilt : Binds K fd_law_spoilt ["box", "value", "deep"] []
  m_law_spoilt : mg "_law_spoilt" = some (.ref f_law_spoilt)
  f_law_table : Addr
  fd_law_table : FuncData
  F_law_table : Fun K "_law_table" "_law_table" s_law_table f_law_table fd_law_table
  b_law_table : Binds K fd_law_table ["box", "letters", "most"] []
  m_law_table : mg "_law_table" = some (.ref f_law_table)
  f_law_after : Addr
  fd_law_after : FuncData
  F_law_after : Fun K "_law_after" "_law_after" s_law_after f_law_after fd_law_after
  b_law_after : Binds K fd_law_after ["table", "row"] []
  m_law_after : mg "_law_after" = some (.ref f_law_after)
  f_law_is_table : Addr
  fd_law_is_table : FuncData
  F_law_is_table : Fun K "_law_is_table" "_law_is_table" s_law_is_table f_law_is_table fd_law_is_table
  b_law_is_table : Binds K fd_law_is_table ["value", "letters"] []
  m_law_is_table : mg "_law_is_table" = some (.ref f_law_is_table)
  f_law_told : Addr
  fd_law_told : FuncData
  F_law_told : Fun K "_law_told" "_law_told" s_law_told f_law_told fd_law_told
  b_law_told : Binds K fd_law_told ["letters", "table"] []
  m_law_told : mg "_law_told" = some (.ref f_law_told)
  f_law : Addr
  fd_law : FuncData
  F_law : Fun K "law" "law" s_law f_law fd_law
  b_law : Binds K fd_law ["script"] []
  m_law : mg "law" = some (.ref f_law)
  a_InvalidNumber : Addr
  m_InvalidNumber : mg "InvalidNumber" = some (.ref a_InvalidNumber)
  f_InvalidNumber_init : Addr
  fd_InvalidNumber_init : FuncData
  F_InvalidNumber_init : Fun K "__init__" "InvalidNumber.__init__" s_InvalidNumber_init f_InvalidNumber_init fd_InvalidNumber_init
  b_InvalidNumber_init : Binds K fd_InvalidNumber_init ["self", "value"] []
  o_InvalidNumber : OexC K a_InvalidNumber
  in_InvalidNumber : PySem.W.findIn K (.ref a_InvalidNumber) "__init__" = some (some (.ref f_InvalidNumber_init))
  ti_InvalidNumber : PySem.W.typeIn K (.ref f_InvalidNumber_init) = some (.type "function")
  x_InvalidNumber_no : PySem.W.findIn K (.ref a_InvalidNumber) "value" = some none
  x_InvalidNumber_xf : XfC K a_InvalidNumber
  a_InvalidTable : Addr
  m_InvalidTable : mg "InvalidTable" = some (.ref a_InvalidTable)
  f_InvalidTable_init : Addr
  fd_InvalidTable_init : FuncData
  F_InvalidTable_init : Fun K "__init__" "InvalidTable.__init__" s_InvalidTable_init f_InvalidTable_init fd_InvalidTable_init
  b_InvalidTable_init : Binds K fd_InvalidTable_init ["self", "value"] []
  o_InvalidTable : OexC K a_InvalidTable
  in_InvalidTable : PySem.W.findIn K (.ref a_InvalidTable) "__init__" = some (some (.ref f_InvalidTable_init))
  ti_InvalidTable : PySem.W.typeIn K (.ref f_InvalidTable_init) = some (.type "function")
  x_InvalidTable_no : PySem.W.findIn K (.ref a_InvalidTable) "value" = some none
  x_InvalidTable_xf : XfC K a_InvalidTable
  a_InvalidRow : Addr
  m_InvalidRow : mg "InvalidRow" = some (.ref a_InvalidRow)
  f_InvalidRow_init : Addr
  fd_InvalidRow_init : FuncData
  F_InvalidRow_init : Fun K "__init__" "InvalidRow.__init__" s_InvalidRow_init f_InvalidRow_init fd_InvalidRow_init
  b_InvalidRow_init : Binds K fd_InvalidRow_init ["self", "value"] []
  o_InvalidRow : OexC K a_InvalidRow
  in_InvalidRow : PySem.W.findIn K (.ref a_InvalidRow) "__init__" = some (some (.ref f_InvalidRow_init))
  ti_InvalidRow : PySem.W.typeIn K (.ref f_InvalidRow_init) = some (.type "function")
  x_InvalidRow_no : PySem.W.findIn K (.ref a_InvalidRow) "value" = some none
  x_InvalidRow_xf : XfC K a_InvalidRow
  k_MOST_STATES_v : Value
  k_MOST_STATES : mg "MOST_STATES" = some k_MOST_STATES_v
  k_MOST_STATES_i : ∃ t, k_MOST_STATES_v = .int 12 t
  e_InvalidNumber_InvalidNumber : PySem.W.exmOne K (.ref a_InvalidNumber) (.ref a_InvalidNumber) = some true
  e_InvalidTable_InvalidNumber : PySem.W.exmOne K (.ref a_InvalidTable) (.ref a_InvalidNumber) = some false
  e_InvalidRow_InvalidNumber : PySem.W.exmOne K (.ref a_InvalidRow) (.ref a_InvalidNumber) = some false
  e_InvalidNumber_InvalidRow : PySem.W.exmOne K (.ref a_InvalidNumber) (.ref a_InvalidRow) = some false
  e_InvalidTable_InvalidRow : PySem.W.exmOne K (.ref a_InvalidTable) (.ref a_InvalidRow) = some false
  e_InvalidRow_InvalidRow : PySem.W.exmOne K (.ref a_InvalidRow) (.ref a_InvalidRow) = some true
  e_InvalidNumber_InvalidTable : PySem.W.exmOne K (.ref a_InvalidNumber) (.ref a_InvalidTable) = some false
  e_InvalidTable_InvalidTable : PySem.W.exmOne K (.ref a_InvalidTable) (.ref a_InvalidTable) = some true
  e_InvalidRow_InvalidTable : PySem.W.exmOne K (.ref a_InvalidRow) (.ref a_InvalidTable) = some false
  n_abs : mg "abs" = none
  n_all : mg "all" = none
  n_bool : mg "bool" = none
  n_int : mg "int" = none
  n_isinstance : mg "isinstance" = none
  n_len : mg "len" = none
  n_list : mg "list" = none
  n_max : mg "max" = none
  n_range : mg "range" = none
  n_str : mg "str" = none
  n_tuple : mg "tuple" = none
section
variable {P : Program} {w : World} {K : PySem.W.Frag} {mg : Str → Option Value} {base : Heap}
theorem Tx.c_Machine (T : Tx K mg) : (⟨K, mg, none⟩ : Ct).mg "Machine" = some (.ref T.a_Machine) := T.m_Machine
theorem ok_InvalidNumber_init (T : Tx K mg) : FnOk P w K mg base (L2.CX P w) 1 T.f_InvalidNumber_init T.fd_InvalidNumber_init ["self", "value"] (spX T.a_InvalidNumber "value") :=
  xinit T.F_InvalidNumber_init sc_InvalidNumber_init T.o_InvalidNumber T.x_InvalidNumber_no (fun cdv A outer s H E => pss_one (ps_ost (pv 0) (pv 1)))
theorem Tx.x_InvalidNumber (T : Tx K mg) (P : Program) (w : World) (base : Heap) : XC K mg P w base "InvalidNumber" "value" := ⟨T.a_InvalidNumber, T.f_InvalidNumber_init, T.fd_InvalidNumber_init, T.m_InvalidNumber, T.o_InvalidNumber, T.in_InvalidNumber, T.ti_InvalidNumber, ok_InvalidNumber_init T, T.b_InvalidNumber_init⟩
theorem ok_InvalidTable_init (T : Tx K mg) : FnOk P w K mg base (L2.CX P w) 1 T.f_InvalidTable_init T.fd_InvalidTable_init ["self", "value"] (spX T.a_InvalidTable "value") :=
  xinit T.F_InvalidTable_init sc_InvalidTable_init T.o_InvalidTable T.x_InvalidTable_no (fun cdv A outer s H E => pss_one (ps_ost (pv 0) (pv 1)))
theorem Tx.x_InvalidTable (T : Tx K mg) (P : Program) (w : World) (base : Heap) : XC K mg P w base "InvalidTable" "value" := ⟨T.a_InvalidTable, T.f_InvalidTable_init, T.fd_InvalidTable_init, T.m_InvalidTable, T.o_InvalidTable, T.in_InvalidTable, T.ti_InvalidTable, ok_InvalidTable_init T, T.b_InvalidTable_init⟩
theorem ok_InvalidRow_init (T : Tx K mg) : FnOk P w K mg base (L2.CX P w) 1 T.f_InvalidRow_init T.fd_InvalidRow_init ["self", "value"] (spX T.a_InvalidRow "value") :=
  xinit T.F_InvalidRow_init sc_InvalidRow_init T.o_InvalidRow T.x_InvalidRow_no (fun cdv A outer s H E => pss_one (ps_ost (pv 0) (pv 1)))
theorem Tx.x_InvalidRow (T : Tx K mg) (P : Program) (w : World) (base : Heap) : XC K mg P w base "InvalidRow" "value" := ⟨T.a_InvalidRow, T.f_InvalidRow_init, T.fd_InvalidRow_init, T.m_InvalidRow, T.o_InvalidRow, T.in_InvalidRow, T.ti_InvalidRow, ok_InvalidRow_init T, T.b_InvalidRow_init⟩
theorem Tx.known_InvalidNumber (T : Tx K mg) : ∀ C ∈ (["InvalidNumber", "InvalidTable", "InvalidRow"] : List Str), ∀ Ca, mg C = some (.ref Ca) → PySem.W.exmOne K (.ref Ca) (.ref T.a_InvalidNumber) = some (decide (C = "InvalidNumber")) := by
  intro C hC Ca hm
  simp only [List.mem_cons, List.not_mem_nil, or_false] at hC
  rcases hC with rfl | rfl | rfl
  · rw [T.m_InvalidNumber] at hm
    cases hm
    exact T.e_InvalidNumber_InvalidNumber.trans (by decide +kernel)
  · rw [T.m_InvalidTable] at hm
    cases hm
    exact T.e_InvalidTable_InvalidNumber.trans (by decide +kernel)
  · rw [T.m_InvalidRow] at hm
    cases hm
    exact T.e_InvalidRow_InvalidNumber.trans (by decide +kernel)
theorem Tx.known_InvalidRow (T : Tx K mg) : ∀ C ∈ (["InvalidNumber", "InvalidTable", "InvalidRow"] : List Str), ∀ Ca, mg C = some (.ref Ca) → PySem.W.exmOne K (.ref Ca) (.ref T.a_InvalidRow) = some (decide (C = "InvalidRow")) := by
  intro C hC Ca hm
  simp only [List.mem_cons, List.not_mem_nil, or_false] at hC
  rcases hC with rfl | rfl | rfl
  · rw [T.m_InvalidNumber] at hm
    cases hm
    exact T.e_InvalidNumber_InvalidRow.trans (by decide +kernel)
  · rw [T.m_InvalidTable] at hm
    cases hm
    exact T.e_InvalidTable_InvalidRow.trans (by decide +kernel)
  · rw [T.m_InvalidRow] at hm
    cases hm
    exact T.e_InvalidRow_InvalidRow.trans (by decide +kernel)
theorem Tx.known_InvalidTable (T : Tx K mg) : ∀ C ∈ (["InvalidNumber", "InvalidTable", "InvalidRow"] : List Str), ∀ Ca, mg C = some (.ref Ca) → PySem.W.exmOne K (.ref Ca) (.ref T.a_InvalidTable) = some (decide (C = "InvalidTable")) := by
  intro C hC Ca hm
  simp only [List.mem_cons, List.not_mem_nil, or_false] at hC
  rcases hC with rfl | rfl | rfl
  · rw [T.m_InvalidNumber] at hm
    cases hm
    exact T.e_InvalidNumber_InvalidTable.trans (by decide +kernel)
  · rw [T.m_InvalidTable] at hm
    cases hm
    exact T.e_InvalidTable_InvalidTable.trans (by decide +kernel)
  · rw [T.m_InvalidRow] at hm
    cases hm
    exact T.e_InvalidRow_InvalidTable.trans (by decide +kernel)
set_option maxHeartbeats 8000000 in
theorem ok_is_integer (T : Tx K mg) : FnOk P w K mg base (L2.CX P w) 2 T.f_is_integer T.fd_is_integer ["value"] (spOf ⟨K, mg, none⟩ 1 M_is_integer) := by
  exact dfn (k := 1) T.F_is_integer sc_is_integer rfl (fun cdv A outer s H E hr tk pw =>
    (dss_one (ds_ret (de_and (de_isi (kc := []) (T := "int") (by decide) rfl T.n_isinstance rfl T.n_int (by decide +kernel) (by decide) (by decide) rfl (fun _ h => nomatch h) (de_var (pv 0))) (de_one (de_not (de_isi (kc := []) (T := "bool") (by decide) rfl T.n_isinstance rfl T.n_bool (by decide +kernel) (by decide) (by decide) rfl (fun _ h => nomatch h) (de_var (pv 0)))))))))
set_option maxHeartbeats 8000000 in
theorem ok_is_within (T : Tx K mg) : FnOk P w K mg base (L2.CX P w) 3 T.f_is_within T.fd_is_within ["value", "low", "high"] (spOf ⟨K, mg, none⟩ 3 M_is_within) := by
  have G_is_integer := ok_is_integer (P := P) (w := w) (base := base) T
  exact dfn (k := 2) T.F_is_within sc_is_within rfl (fun cdv A outer s H E hr tk pw =>
    (dss_one (ds_ret (de_and (de_call G_is_integer (hr.mono (by decide)) rfl T.m_is_integer T.F_is_integer.kp T.b_is_integer tk (da_cons (de_var (pv 0)) da_nil)) (de_one (de_chain op_le od_le op_le od_le (de_var (pv 1)) (de_var (pv 0)) (de_var (pv 2))))))))
set_option maxHeartbeats 8000000 in
theorem ok_is_tuple (T : Tx K mg) : FnOk P w K mg base (L2.CX P w) 2 T.f_is_tuple T.fd_is_tuple ["value", "least", "most"] (spOf ⟨K, mg, none⟩ 3 M_is_tuple) := by
  exact dfn (k := 1) T.F_is_tuple sc_is_tuple rfl (fun cdv A outer s H E hr tk pw =>
    (dss_one (ds_ret (de_and (de_isi (kc := []) (T := "tuple") (by decide) rfl T.n_isinstance rfl T.n_tuple (by decide +kernel) (by decide) (by decide) rfl (fun _ h => nomatch h) (de_var (pv 0))) (de_one (de_chain op_le od_le op_le od_le (de_var (pv 1)) (de_cb call_len cd_len rfl T.n_len (by decide +kernel) (da_cons (de_var (pv 0)) da_nil)) (de_var (pv 2))))))))
set_option maxHeartbeats 8000000 in
theorem ok_are_within (T : Tx K mg) : FnOk P w K mg base (L2.CX P w) 4 T.f_are_within T.fd_are_within ["value", "many", "low", "high"] (spOf ⟨K, mg, none⟩ 4 M_are_within) := by
  have G_is_tuple := ok_is_tuple (P := P) (w := w) (base := base) T
  have G_is_within := ok_is_within (P := P) (w := w) (base := base) T
  exact dfn (k := 3) T.F_are_within sc_are_within rfl (fun cdv A outer s H E hr tk pw =>
    (dss_one (ds_ret (de_and (de_call G_is_tuple (hr.mono (by decide)) rfl T.m_is_tuple T.F_is_tuple.kp T.b_is_tuple tk (da_cons (de_var (pv 0)) (da_cons (de_var (pv 1)) (da_cons (de_var (pv 1)) da_nil)))) (de_one (de_cb (cr_all rfl) cd_all rfl T.n_all (by decide +kernel) (da_cons (de_lc (own := [("part", 4)]) rfl sc_are_within.nd (di_tup (de_var (pv 0)) rfl) (blkOk_by (N := n_are_within) (sc := defScope s_are_within) (own := [("part", 4)]) (by decide +kernel)) (fun _ _ _ _ _ => (pg_name (i := 4) sc_are_within.nd rfl (Or.inl rfl))) (gd_own (by decide)) (fun _ _ _ _ _ => dts_nil) (fun _ _ _ _ _ => (de_call G_is_within (hr.mono (by decide)) rfl T.m_is_within T.F_is_within.kp T.b_is_within takes0 (da_cons (de_var (pv 4)) (da_cons (de_var (pv 2)) (da_cons (de_var (pv 3)) da_nil)))))) da_nil)))))))
set_option maxHeartbeats 8000000 in
theorem ok_is_row (T : Tx K mg) : FnOk P w K mg base (L2.CX P w) 4 T.f_is_row T.fd_is_row ["value", "letters"] (spOf ⟨K, mg, none⟩ 2 M_is_row) := by
  have G_is_within := ok_is_within (P := P) (w := w) (base := base) T
  exact dfn (k := 3) T.F_is_row sc_is_row rfl (fun cdv A outer s H E hr tk pw =>
    (dss_one (ds_ret (de_and (de_isi (kc := []) (T := "tuple") (by decide) rfl T.n_isinstance rfl T.n_tuple (by decide +kernel) (by decide) (by decide) rfl (fun _ h => nomatch h) (de_var (pv 0))) (de_one (de_cb (cr_all rfl) cd_all rfl T.n_all (by decide +kernel) (da_cons (de_lc (own := [("letter", 2)]) rfl sc_is_row.nd (di_tup (de_var (pv 0)) rfl) (blkOk_by (N := n_is_row) (sc := defScope s_is_row) (own := [("letter", 2)]) (by decide +kernel)) (fun _ _ _ _ _ => (pg_name (i := 2) sc_is_row.nd rfl (Or.inl rfl))) (gd_own (by decide)) (fun _ _ _ _ _ => dts_nil) (fun _ _ _ _ _ => (de_call G_is_within (hr.mono (by decide)) rfl T.m_is_within T.F_is_within.kp T.b_is_within takes0 (da_cons (de_var (pv 2)) (da_cons de_int (da_cons (de_bin op_sub od_sub (de_var (pv 1)) de_int) da_nil)))))) da_nil)))))))
set_option maxHeartbeats 8000000 in
theorem ok_is_table (T : Tx K mg) : FnOk P w K mg base (L2.CX P w) 5 T.f_is_table T.fd_is_table ["value", "letters"] (spOf ⟨K, mg, none⟩ 2 M_is_table) := by
  have G_is_tuple := ok_is_tuple (P := P) (w := w) (base := base) T
  have G_are_within := ok_are_within (P := P) (w := w) (base := base) T
  exact dfn (k := 4) T.F_is_table sc_is_table rfl (fun cdv A outer s H E hr tk pw =>
    (dss_cons (ds_if (dt_not (dt_val (de_call G_is_tuple (hr.mono (by decide)) rfl T.m_is_tuple T.F_is_tuple.kp T.b_is_tuple tk (da_cons (de_var (pv 0)) (da_cons de_int (da_cons (de_c (pe_glob (v := .int 12) rfl T.k_MOST_STATES T.k_MOST_STATES_i) (fun _ _ => .int 12)) da_nil))))))
      (dss_one (ds_ret de_bl))
      dss_nil)
      (dss_one (ds_ret (de_cb (cr_all rfl) cd_all rfl T.n_all (by decide +kernel) (da_cons (de_lc (own := [("row", 2)]) rfl sc_is_table.nd (di_tup (de_var (pv 0)) rfl) (blkOk_by (N := n_is_table) (sc := defScope s_is_table) (own := [("row", 2)]) (by decide +kernel)) (fun _ _ _ _ _ => (pg_name (i := 2) sc_is_table.nd rfl (Or.inl rfl))) (gd_own (by decide)) (fun _ _ _ _ _ => dts_nil) (fun _ _ _ _ _ => (de_call G_are_within (hr.mono (by decide)) rfl T.m_are_within T.F_are_within.kp T.b_are_within takes0 (da_cons (de_var (pv 2)) (da_cons (de_var (pv 1)) (da_cons (de_un un_neg ud_neg de_int) (da_cons (de_bin op_sub od_sub (de_cb call_len cd_len rfl T.n_len (by decide +kernel) (da_cons (de_var (pv 0)) da_nil)) de_int) da_nil))))))) da_nil))))))
set_option maxHeartbeats 8000000 in
theorem ok_Machine_init (T : Tx K mg) : FnOk P w K mg base (L2.CX P w) 6 T.f_Machine_init T.fd_Machine_init ["self", "letters", "table"] (spOf ⟨K, mg, none⟩ 3 M_Machine_init) := by
  have G_is_within := ok_is_within (P := P) (w := w) (base := base) T
  have G_is_table := ok_is_table (P := P) (w := w) (base := base) T
  exact dfn (k := 5) T.F_Machine_init sc_Machine_init rfl (fun cdv A outer s H E hr tk pw =>
    (dss_cons (ds_if (dt_not (dt_val (de_call G_is_within (hr.mono (by decide)) rfl T.m_is_within T.F_is_within.kp T.b_is_within tk (da_cons (de_var (pv 1)) (da_cons de_int (da_cons de_int da_nil))))))
      (dss_one (ds_raise rfl (T.x_InvalidNumber P w base) T.m_InvalidNumber T.m_InvalidNumber (hr.mono (by decide)) rfl tk (da_cons (de_var (pv 1)) da_nil)))
      dss_nil)
      (dss_cons (ds_if (dt_not (dt_val (de_call G_is_table (hr.mono (by decide)) rfl T.m_is_table T.F_is_table.kp T.b_is_table tk (da_cons (de_var (pv 2)) (da_cons (de_var (pv 1)) da_nil)))))
      (dss_one (ds_raise rfl (T.x_InvalidTable P w base) T.m_InvalidTable T.m_InvalidTable (hr.mono (by decide)) rfl tk (da_cons (de_var (pv 2)) da_nil)))
      dss_nil)
      (dss_cons (ds_setF T.c_Machine T.i_Machine.cl T.no_Machine_letters (de_var (pv 1)) (de_var (pv 0)))
      (dss_one (ds_setF T.c_Machine T.i_Machine.cl T.no_Machine_table (de_var (pv 2)) (de_var (pv 0))))))))
set_option maxHeartbeats 8000000 in
theorem ok_Machine_len (T : Tx K mg) : FnOk P w K mg base (L2.CX P w) 2 T.f_Machine_len T.fd_Machine_len ["self"] (spOf ⟨K, mg, none⟩ 1 M_Machine_len) := by
  exact dfn (k := 1) T.F_Machine_len sc_Machine_len rfl (fun cdv A outer s H E hr tk pw =>
    (dss_one (ds_ret (de_cb call_len cd_len rfl T.n_len (by decide +kernel) (da_cons (de_fld T.c_Machine T.i_Machine.cl T.no_Machine_table (de_var (pv 0))) da_nil)))))
set_option maxHeartbeats 8000000 in
theorem ok_Machine_eq (T : Tx K mg) : FnOk P w K mg base (L2.CX P w) 2 T.f_Machine_eq T.fd_Machine_eq ["self", "other"] (spOf ⟨K, mg, none⟩ 2 M_Machine_eq) := by
  exact dfn (k := 1) T.F_Machine_eq sc_Machine_eq rfl (fun cdv A outer s H E hr tk pw =>
    (dss_one (ds_ret (de_and (de_isiC rfl T.n_isinstance rfl T.m_Machine T.c_Machine (by decide) rfl T.i_Machine T.self_Machine T.not_Machine (de_var (pv 1))) (de_and (de_cmp (op_eqD hr.units) od_eq (nomark _) (de_fld T.c_Machine T.i_Machine.cl T.no_Machine_letters (de_var (pv 0))) (de_fld T.c_Machine T.i_Machine.cl T.no_Machine_letters (de_var (pv 1)))) (de_one (de_cmp (op_eqD hr.units) od_eq (nomark _) (de_fld T.c_Machine T.i_Machine.cl T.no_Machine_table (de_var (pv 0))) (de_fld T.c_Machine T.i_Machine.cl T.no_Machine_table (de_var (pv 1))))))))))
set_option maxHeartbeats 8000000 in
theorem ok_Machine_after (T : Tx K mg) : FnOk P w K mg base (L2.CX P w) 5 T.f_Machine_after T.fd_Machine_after ["self", "row"] (spOf ⟨K, mg, none⟩ 2 M_Machine_after) := by
  have G_is_row := ok_is_row (P := P) (w := w) (base := base) T
  exact dfn (k := 4) T.F_Machine_after sc_Machine_after rfl (fun cdv A outer s H E hr tk pw =>
    (dss_cons (ds_if (dt_not (dt_val (de_call G_is_row (hr.mono (by decide)) rfl T.m_is_row T.F_is_row.kp T.b_is_row tk (da_cons (de_var (pv 1)) (da_cons (de_fld T.c_Machine T.i_Machine.cl T.no_Machine_letters (de_var (pv 0))) da_nil)))))
      (dss_one (ds_raise rfl (T.x_InvalidRow P w base) T.m_InvalidRow T.m_InvalidRow (hr.mono (by decide)) rfl tk (da_cons (de_var (pv 1)) da_nil)))
      dss_nil)
      (dss_cons (ds_set (i := 2) sc_Machine_after.nd rfl (Or.inl rfl) de_int)
      (dss_cons (ds_for pw rfl (di_tup (de_var (pv 1)) rfl) (pg_name (i := 3) sc_Machine_after.nd rfl (Or.inl rfl)) gd_nm
      (dss_one (ds_if (dt_cmp op_ge od_ge (nomark _) (de_var (pv 2)) de_int)
      (dss_one (ds_set (i := 2) sc_Machine_after.nd rfl (Or.inl rfl) (de_ix ix_seq od_ix (de_ix ix_seq od_ix (de_fld T.c_Machine T.i_Machine.cl T.no_Machine_table (de_var (pv 0))) (de_var (pv 2))) (de_var (pv 3)))))
      dss_nil)))
      (dss_one (ds_ret (de_var (pv 2))))))))
set_option maxHeartbeats 8000000 in
theorem ok_law_box (T : Tx K mg) : FnOk P w K mg base (L2.CX P w) 2 T.f_law_box T.fd_law_box ["script", "k"] (spOf ⟨K, mg, none⟩ 2 M_law_box) := by
  exact dfn (k := 1) T.F_law_box sc_law_box rfl (fun cdv A outer s H E hr tk pw =>
    (dss_cons (ds_set (i := 2) sc_law_box.nd rfl (Or.inl rfl) (de_bin op_addA od_add (de_bin op_mulA od_mulA de_int (de_var (pv 1))) de_int))
      (dss_cons (ds_if (dt_cmp op_lt od_lt (nomark _) (de_var (pv 1)) (de_cb call_len cd_len rfl T.n_len (by decide +kernel) (da_cons (de_var (pv 0)) da_nil)))
      (dss_one (ds_set (i := 2) sc_law_box.nd rfl (Or.inl rfl) (de_cb call_abs cd_abs rfl T.n_abs (by decide +kernel) (da_cons (de_ix ix_seq od_ix (de_var (pv 0)) (de_var (pv 1))) da_nil))))
      (dss_one (ds_if (dt_cmp op_gt od_gt (nomark _) (de_cb call_len cd_len rfl T.n_len (by decide +kernel) (da_cons (de_var (pv 0)) da_nil)) de_int)
      (dss_one (ds_set (i := 2) sc_law_box.nd rfl (Or.inl rfl) (de_bin op_addA od_add (de_bin op_mulA od_mulA (de_bin op_mod od_mod (de_ct call_int1 cd_int rfl T.n_int (by decide +kernel) (da_cons (de_cb call_abs cd_abs rfl T.n_abs (by decide +kernel) (da_cons (de_ix ix_seq od_ix (de_var (pv 0)) (de_bin op_mod od_mod (de_ct call_int1 cd_int rfl T.n_int (by decide +kernel) (da_cons (de_var (pv 1)) da_nil)) (de_cb call_len cd_len rfl T.n_len (by decide +kernel) (da_cons (de_var (pv 0)) da_nil)))) da_nil)) da_nil)) de_int) de_int) (de_bin op_mulA od_mulA de_int (de_var (pv 1))))))
      dss_nil)))
      (dss_cons (ds_set (i := 3) sc_law_box.nd rfl (Or.inl rfl) (de_ix ix_seq od_ix (de_lst (da_cons de_int (da_cons (de_var (pv 2)) da_nil))) (de_ct call_int1 cd_int rfl T.n_int (by decide +kernel) (da_cons (de_cmp op_ge od_ge (nomark _) (de_var (pv 2)) (de_bin op_pow od_pow de_int de_int)) da_nil))))
      (dss_one (ds_ret (de_lstC (da_cons (de_var (pv 3)) (da_cons (de_bin op_addA od_add (de_bin op_mod od_mod (de_ct call_int1 cd_int rfl T.n_int (by decide +kernel) (da_cons (de_bin op_addA od_add (de_bin op_mulA od_mulA (de_bin op_mod od_mod (de_ct call_int1 cd_int rfl T.n_int (by decide +kernel) (da_cons (de_var (pv 2)) da_nil)) de_int) de_int) (de_bin op_mulA od_mulA de_int (de_var (pv 1)))) da_nil)) de_int) de_int) da_nil)))))))))
set_option maxHeartbeats 8000000 in
theorem ok_law_take (T : Tx K mg) : FnOk P w K mg base (L2.CX P w) 2 T.f_law_take T.fd_law_take ["box", "many"] (spOf ⟨K, mg, none⟩ 2 M_law_take) := by
  exact dfn (k := 1) T.F_law_take sc_law_take rfl (fun cdv A outer s H E hr tk pw =>
    (dss_cons (ds_if (dt_cmp op_gt od_gt (nomark _) (de_ix ix_seq od_ix (de_var (pv 0)) de_int) de_int)
      (dss_cons (ds_set (i := 2) sc_law_take.nd rfl (Or.inl rfl) (de_bin op_mod od_mod (de_ct call_int1 cd_int rfl T.n_int (by decide +kernel) (da_cons (de_ix ix_seq od_ix (de_var (pv 0)) de_int) da_nil)) (de_var (pv 1))))
      (dss_cons (ds_setI (de_bin op_fdiv od_div (de_ix ix_seq od_ix (de_var (pv 0)) de_int) (de_var (pv 1))) (de_var (pv 0)) de_int)
      (dss_one (ds_ret (de_var (pv 2))))))
      dss_nil)
      (dss_cons (ds_setI (de_bin op_mod od_mod (de_ct call_int1 cd_int rfl T.n_int (by decide +kernel) (da_cons (de_bin op_addA od_add (de_bin op_mulA od_mulA (de_ix ix_seq od_ix (de_var (pv 0)) de_int) de_int) de_int) da_nil)) de_int) (de_var (pv 0)) de_int)
      (dss_one (ds_ret (de_bin op_mod od_mod (de_ct call_int1 cd_int rfl T.n_int (by decide +kernel) (da_cons (de_bin op_fdiv od_div (de_ix ix_seq od_ix (de_var (pv 0)) de_int) de_int) da_nil)) (de_var (pv 1))))))))
set_option maxHeartbeats 8000000 in
theorem ok_law_pick (T : Tx K mg) : FnOk P w K mg base (L2.CX P w) 3 T.f_law_pick T.fd_law_pick ["box", "some"] (spOf ⟨K, mg, none⟩ 2 M_law_pick) := by
  have G_law_take := ok_law_take (P := P) (w := w) (base := base) T
  exact dfn (k := 2) T.F_law_pick sc_law_pick rfl (fun cdv A outer s H E hr tk pw =>
    (dss_one (ds_ret (de_ix ix_seq od_ix (de_var (pv 1)) (de_call G_law_take (hr.mono (by decide)) rfl T.m_law_take T.F_law_take.kp T.b_law_take tk (da_cons (de_var (pv 0)) (da_cons (de_cb call_len cd_len rfl T.n_len (by decide +kernel) (da_cons (de_var (pv 1)) da_nil)) da_nil)))))))
set_option maxHeartbeats 8000000 in
theorem ok_law_whole (T : Tx K mg) : FnOk P w K mg base (L2.CX P w) 2 T.f_law_whole T.fd_law_whole ["value"] (spOf ⟨K, mg, none⟩ 1 M_law_whole) := by
  exact dfn (k := 1) T.F_law_whole sc_law_whole rfl (fun cdv A outer s H E hr tk pw =>
    (dss_one (ds_ret (de_and (de_isi (kc := []) (T := "int") (by decide) rfl T.n_isinstance rfl T.n_int (by decide +kernel) (by decide) (by decide) rfl (fun _ h => nomatch h) (de_var (pv 0))) (de_one (de_not (de_isi (kc := []) (T := "bool") (by decide) rfl T.n_isinstance rfl T.n_bool (by decide +kernel) (by decide) (by decide) rfl (fun _ h => nomatch h) (de_var (pv 0)))))))))
set_option maxHeartbeats 8000000 in
theorem ok_law_is_due (T : Tx K mg) : FnOk P w K mg base (L2.CX P w) 2 T.f_law_is_due T.fd_law_is_due ["told", "due"] (spOf ⟨K, mg, none⟩ 2 M_law_is_due) := by
  exact dfn (k := 1) T.F_law_is_due sc_law_is_due rfl (fun cdv A outer s H E hr tk pw =>
    (dss_one (ds_ret (de_if (dt_val (de_var (pv 1))) (de_cmp op_isBl od_isB (nomark _) (de_var (pv 0)) de_bl) (de_cmp op_isBl od_isB (nomark _) (de_var (pv 0)) de_bl)))))
set_option maxHeartbeats 8000000 in
theorem ok_law_spoilt (T : Tx K mg) : ∀ n : Nat, FnOk P w K mg base (L2.CX P w) (3 + n) T.f_law_spoilt T.fd_law_spoilt ["box", "value", "deep"] (spOf ⟨K, mg, none⟩ 3 (M_law_spoilt n))
  | 0 => fn_stuck
  | n + 1 => by
    have ih := ok_law_spoilt T n
    have G_law_take := ok_law_take (P := P) (w := w) (base := base) T
    have G_law_pick := ok_law_pick (P := P) (w := w) (base := base) T
    have G_law_whole := ok_law_whole (P := P) (w := w) (base := base) T
    exact dfn (k := 3 + n) T.F_law_spoilt sc_law_spoilt rfl (fun cdv A outer s H E hr tk pw =>
    (dss_cons (ds_if (dt_val (de_isi (kc := []) (T := "tuple") (by decide) rfl T.n_isinstance rfl T.n_tuple (by decide +kernel) (by decide) (by decide) rfl (fun _ h => nomatch h) (de_var (pv 1))))
      (dss_cons (ds_set (i := 3) sc_law_spoilt.nd rfl (Or.inl rfl) (de_call G_law_take (hr.mono (by omega)) rfl T.m_law_take T.F_law_take.kp T.b_law_take tk (da_cons (de_var (pv 0)) (da_cons (de_bin op_addA od_add (de_cb call_len cd_len rfl T.n_len (by decide +kernel) (da_cons (de_var (pv 1)) da_nil)) de_int) da_nil))))
      (dss_cons (ds_if (PW.pt (dw_and (dt_cmp (op_neD hr.units) od_ne (nomark _) (de_var (pv 1)) (de_tup da_nil)) (dw_and (dt_cmp op_gt od_gt (nomark _) (de_var (pv 2)) de_int) (dw_and1 (dt_cmp op_gt od_gt (nomark _) (de_call G_law_take (hr.mono (by omega)) rfl T.m_law_take T.F_law_take.kp T.b_law_take tk (da_cons (de_var (pv 0)) (da_cons de_int da_nil))) de_int)))))
      (dss_cons (ds_set (i := 3) sc_law_spoilt.nd rfl (Or.inl rfl) (de_bin op_mod od_mod (de_ct call_int1 cd_int rfl T.n_int (by decide +kernel) (da_cons (de_var (pv 3)) da_nil)) (de_cb call_len cd_len rfl T.n_len (by decide +kernel) (da_cons (de_var (pv 1)) da_nil))))
      (dss_one (ds_ret (de_bin op_addA od_add (de_bin op_addA od_add (de_sl sl_any sd_any (de_var (pv 1)) dpo_none (dpo_some (de_var (pv 3)))) (de_tup (da_cons (de_call ih (hr.mono (by omega)) rfl T.m_law_spoilt T.F_law_spoilt.kp T.b_law_spoilt tk (da_cons (de_var (pv 0)) (da_cons (de_ix ix_seq od_ix (de_var (pv 1)) (de_var (pv 3))) (da_cons (de_bin op_sub od_sub (de_var (pv 2)) de_int) da_nil)))) da_nil))) (de_sl sl_any sd_any (de_var (pv 1)) (dpo_some (de_bin op_addA od_add (de_var (pv 3)) de_int)) dpo_none)))))
      dss_nil)
      (dss_cons (ds_set (i := 4) sc_law_spoilt.nd rfl (Or.inl rfl) (de_call G_law_take (hr.mono (by omega)) rfl T.m_law_take T.F_law_take.kp T.b_law_take tk (da_cons (de_var (pv 0)) (da_cons de_int da_nil))))
      (dss_cons (ds_if (dt_cmp (op_eqD hr.units) od_eq (nomark _) (de_var (pv 4)) de_int)
      (dss_one (ds_ret (de_ct call_list_of cd_list rfl T.n_list (by decide +kernel) (da_cons (de_var (pv 1)) da_nil))))
      dss_nil)
      (dss_cons (ds_if (dt_cmp (op_eqD hr.units) od_eq (nomark _) (de_var (pv 4)) de_int)
      (dss_one (ds_ret (de_bin op_addA od_add (de_sl sl_any sd_any (de_var (pv 1)) dpo_none (dpo_some (de_var (pv 3)))) (de_sl sl_any sd_any (de_var (pv 1)) (dpo_some (de_bin op_addA od_add (de_var (pv 3)) de_int)) dpo_none))))
      dss_nil)
      (dss_cons (ds_if (dt_cmp (op_eqD hr.units) od_eq (nomark _) (de_var (pv 4)) de_int)
      (dss_one (ds_ret (de_bin op_addA od_add (de_bin op_addA od_add (de_sl sl_any sd_any (de_var (pv 1)) dpo_none (dpo_some (de_var (pv 3)))) (de_sl sl_any sd_any (de_var (pv 1)) (dpo_some (de_var (pv 3))) (dpo_some (de_bin op_addA od_add (de_var (pv 3)) de_int)))) (de_sl sl_any sd_any (de_var (pv 1)) (dpo_some (de_var (pv 3))) dpo_none))))
      dss_nil)
      (dss_cons (ds_if (dt_cmp (op_eqD hr.units) od_eq (nomark _) (de_var (pv 4)) de_int)
      (dss_one (ds_ret (de_bin op_addA od_add (de_sl sl_any sd_any (de_var (pv 1)) (dpo_some (de_var (pv 3))) dpo_none) (de_sl sl_any sd_any (de_var (pv 1)) dpo_none (dpo_some (de_var (pv 3)))))))
      dss_nil)
      (dss_cons (ds_if (dt_cmp (op_eqD hr.units) od_eq (nomark _) (de_var (pv 4)) de_int)
      (dss_one (ds_ret (de_bin op_addA od_add (de_var (pv 1)) (de_tup (da_cons (de_tup da_nil) da_nil)))))
      dss_nil)
      (dss_cons (ds_if (dt_cmp (op_eqD hr.units) od_eq (nomark _) (de_var (pv 4)) de_int)
      (dss_one (ds_ret (de_bin op_addA od_add (de_bin op_addA od_add (de_sl sl_any sd_any (de_var (pv 1)) dpo_none (dpo_some (de_var (pv 3)))) (de_tup (da_cons de_int da_nil))) (de_sl sl_any sd_any (de_var (pv 1)) (dpo_some (de_var (pv 3))) dpo_none))))
      dss_nil)
      (dss_cons (ds_if (dt_cmp (op_eqD hr.units) od_eq (nomark _) (de_var (pv 4)) de_int)
      (dss_one (ds_ret (de_bin op_addA od_add (de_sl sl_any sd_any (de_var (pv 1)) dpo_none (dpo_some (de_un un_neg ud_neg de_int))) (de_sl sl_any sd_any (de_var (pv 1)) dpo_none (dpo_some de_int)))))
      dss_nil)
      (dss_one (ds_ret de_non))))))))))))
      dss_nil)
      (dss_cons (ds_if (dt_val (de_isi (kc := []) (T := "str") (by decide) rfl T.n_isinstance rfl T.n_str (by decide +kernel) (by decide) (by decide) rfl (fun _ h => nomatch h) (de_var (pv 1))))
      (dss_one (ds_ret (de_call G_law_pick (hr.mono (by omega)) rfl T.m_law_pick T.F_law_pick.kp T.b_law_pick tk (da_cons (de_var (pv 0)) (da_cons (de_lst (da_cons (de_bin op_addA od_add (de_var (pv 1)) de_str) (da_cons de_str (da_cons (de_sl sl_any sd_any (de_var (pv 1)) (dpo_some de_int) dpo_none) (da_cons (de_bin op_addA od_add de_str (de_var (pv 1))) (da_cons de_int da_nil)))))) da_nil)))))
      dss_nil)
      (dss_cons (ds_if (dt_val (de_call G_law_whole (hr.mono (by omega)) rfl T.m_law_whole T.F_law_whole.kp T.b_law_whole tk (da_cons (de_var (pv 1)) da_nil)))
      (dss_one (ds_ret (de_call G_law_pick (hr.mono (by omega)) rfl T.m_law_pick T.F_law_pick.kp T.b_law_pick tk (da_cons (de_var (pv 0)) (da_cons (de_lst (da_cons (de_bin op_addA od_add (de_var (pv 1)) de_int) (da_cons (de_bin op_sub od_sub (de_var (pv 1)) de_int) (da_cons (de_cmp op_gt od_gt (nomark _) (de_var (pv 1)) de_int) (da_cons (de_bin op_sub od_sub (de_un un_neg ud_neg de_int) (de_var (pv 1))) (da_cons (de_tup (da_cons (de_var (pv 1)) da_nil)) (da_cons de_non (da_cons (de_ct call_str_int cd_str rfl T.n_str (by decide +kernel) (da_cons (de_var (pv 1)) da_nil)) (da_cons (de_bin op_addA od_add (de_var (pv 1)) de_int) da_nil))))))))) da_nil)))))
      dss_nil)
      (dss_one (ds_ret (de_call G_law_pick (hr.mono (by omega)) rfl T.m_law_pick T.F_law_pick.kp T.b_law_pick tk (da_cons (de_var (pv 0)) (da_cons (de_lst (da_cons de_int (da_cons (de_tup da_nil) (da_cons de_str da_nil)))) da_nil)))))))))
set_option maxHeartbeats 8000000 in
theorem ok_law_table (T : Tx K mg) : FnOk P w K mg base (L2.CX P w) 4 T.f_law_table T.fd_law_table ["box", "letters", "most"] (spOf ⟨K, mg, none⟩ 3 M_law_table) := by
  have G_law_take := ok_law_take (P := P) (w := w) (base := base) T
  have G_law_pick := ok_law_pick (P := P) (w := w) (base := base) T
  exact dfn (k := 3) T.F_law_table sc_law_table rfl (fun cdv A outer s H E hr tk pw =>
    (dss_cons (ds_set (i := 3) sc_law_table.nd rfl (Or.inr rfl) (de_bin op_addA od_add de_int (de_call G_law_take (hr.mono (by decide)) rfl T.m_law_take T.F_law_take.kp T.b_law_take tk (da_cons (de_var (pv 0)) (da_cons (de_var (pv 2)) da_nil)))))
      (dss_cons (ds_set (i := 4) sc_law_table.nd rfl (Or.inr rfl) (de_call G_law_pick (hr.mono (by decide)) rfl T.m_law_pick T.F_law_pick.kp T.b_law_pick tk (da_cons (de_var (pv 0)) (da_cons (de_lst (da_cons de_int (da_cons de_int (da_cons de_int da_nil)))) da_nil))))
      (dss_cons (ds_set (i := 5) sc_law_table.nd rfl (Or.inl rfl) (de_lstC da_nil))
      (dss_cons (ds_for pw rfl (di_rng1 rfl T.n_range (da_cons (de_var (pv 3)) da_nil)) (pg_name (i := 6) sc_law_table.nd rfl (Or.inl rfl)) gd_nm
      (dss_one (ds_expr (de_bm md_append (pe_bm PySem.F.plainAttrs_list PySem.F.slot_list_append PySem.F.type_list_append mt_append (de_var (pv 5)) (da_cons (de_ct call_tuple_of cd_tuple rfl T.n_tuple (by decide +kernel) (da_cons (de_lc (own := [("letter", 7)]) rfl sc_law_table.nd (di_rng1 rfl T.n_range (da_cons (de_var (pv 1)) da_nil)) (blkOk_by (N := n_law_table) (sc := defScope s_law_table) (own := [("letter", 7)]) (by decide +kernel)) (fun _ _ _ _ _ => (pg_name (i := 7) sc_law_table.nd rfl (Or.inl rfl))) (gd_own (by decide)) (fun _ _ _ _ _ => dts_nil) (fun _ _ _ _ _ => (de_if (dt_cmp op_gt od_gt (nomark _) (de_call G_law_take (hr.mono (by decide)) rfl T.m_law_take T.F_law_take.kp T.b_law_take takes0 (da_cons (de_var (pv 0)) (da_cons (de_var (pv 4)) da_nil))) de_int) (de_call G_law_take (hr.mono (by decide)) rfl T.m_law_take T.F_law_take.kp T.b_law_take takes0 (da_cons (de_var (pv 0)) (da_cons (de_var (pv 3)) da_nil))) (de_un un_neg ud_neg de_int)))) da_nil)) da_nil))))))
      (dss_one (ds_ret (de_ct call_tuple_of cd_tuple rfl T.n_tuple (by decide +kernel) (da_cons (de_var (pv 5)) da_nil)))))))))
set_option maxHeartbeats 8000000 in
theorem ok_law_after (T : Tx K mg) : FnOk P w K mg base (L2.CX P w) 2 T.f_law_after T.fd_law_after ["table", "row"] (spOf ⟨K, mg, none⟩ 2 M_law_after) := by
  exact dfn (k := 1) T.F_law_after sc_law_after rfl (fun cdv A outer s H E hr tk pw =>
    (dss_cons (ds_set (i := 2) sc_law_after.nd rfl (Or.inl rfl) de_int)
      (dss_cons (ds_for pw rfl (di_tup (de_var (pv 1)) rfl) (pg_name (i := 3) sc_law_after.nd rfl (Or.inl rfl)) gd_nm
      (dss_one (ds_if (dt_cmp op_ge od_ge (nomark _) (de_var (pv 2)) de_int)
      (dss_one (ds_set (i := 2) sc_law_after.nd rfl (Or.inl rfl) (de_ix ix_seq od_ix (de_ix ix_seq od_ix (de_var (pv 0)) (de_var (pv 2))) (de_var (pv 3)))))
      dss_nil)))
      (dss_one (ds_ret (de_var (pv 2)))))))
set_option maxHeartbeats 8000000 in
theorem ok_law_is_table (T : Tx K mg) : FnOk P w K mg base (L2.CX P w) 3 T.f_law_is_table T.fd_law_is_table ["value", "letters"] (spOf ⟨K, mg, none⟩ 2 M_law_is_table) := by
  have G_law_whole := ok_law_whole (P := P) (w := w) (base := base) T
  exact dfn (k := 2) T.F_law_is_table sc_law_is_table rfl (fun cdv A outer s H E hr tk pw =>
    (dss_cons (ds_if (PW.pt (dw_or (dt_not (dt_val (de_isi (kc := []) (T := "tuple") (by decide) rfl T.n_isinstance rfl T.n_tuple (by decide +kernel) (by decide) (by decide) rfl (fun _ h => nomatch h) (de_var (pv 0))))) (dw_or (dt_cmp op_lt od_lt (nomark _) (de_cb call_len cd_len rfl T.n_len (by decide +kernel) (da_cons (de_var (pv 0)) da_nil)) de_int) (dw_or1 (dt_cmp op_gt od_gt (nomark _) (de_cb call_len cd_len rfl T.n_len (by decide +kernel) (da_cons (de_var (pv 0)) da_nil)) de_int)))))
      (dss_one (ds_ret de_bl))
      dss_nil)
      (dss_cons (ds_for pw rfl (di_tup (de_var (pv 0)) rfl) (pg_name (i := 2) sc_law_is_table.nd rfl (Or.inl rfl)) gd_nm
      (dss_cons (ds_if (PW.pt (dw_or (dt_not (dt_val (de_isi (kc := []) (T := "tuple") (by decide) rfl T.n_isinstance rfl T.n_tuple (by decide +kernel) (by decide) (by decide) rfl (fun _ h => nomatch h) (de_var (pv 2))))) (dw_or1 (dt_cmp (op_neD hr.units) od_ne (nomark _) (de_cb call_len cd_len rfl T.n_len (by decide +kernel) (da_cons (de_var (pv 2)) da_nil)) (de_var (pv 1))))))
      (dss_one (ds_ret de_bl))
      dss_nil)
      (dss_one (ds_if (dt_cmp (op_neD hr.units) od_ne (nomark _) (de_lc (own := [("one", 3)]) rfl sc_law_is_table.nd (di_tup (de_var (pv 2)) rfl) (blkOk_by (N := n_law_is_table) (sc := defScope s_law_is_table) (own := [("one", 3)]) (by decide +kernel)) (fun _ _ _ _ _ => (pg_name (i := 3) sc_law_is_table.nd rfl (Or.inl rfl))) (gd_own (by decide)) (fun _ _ _ _ _ => (dts_one (PW.pt (dw_or (dt_not (dt_val (de_call G_law_whole (hr.mono (by decide)) rfl T.m_law_whole T.F_law_whole.kp T.b_law_whole takes0 (da_cons (de_var (pv 3)) da_nil)))) (dw_or (dt_cmp op_lt od_lt (nomark _) (de_var (pv 3)) (de_un un_neg ud_neg de_int)) (dw_or1 (dt_cmp op_ge od_ge (nomark _) (de_var (pv 3)) (de_cb call_len cd_len rfl T.n_len (by decide +kernel) (da_cons (de_var (pv 0)) da_nil))))))))) (fun _ _ _ _ _ => (de_var (pv 3)))) (de_lst da_nil))
      (dss_one (ds_ret de_bl))
      dss_nil))))
      (dss_one (ds_ret de_bl)))))
set_option maxHeartbeats 8000000 in
theorem ok_law_told (T : Tx K mg) : FnOk P w K mg base (L2.CX P w) 8 T.f_law_told T.fd_law_told ["letters", "table"] (spOf ⟨K, mg, none⟩ 2 M_law_told) := by
  have G_Machine_init := ok_Machine_init (P := P) (w := w) (base := base) T
  exact dfn (k := 7) T.F_law_told sc_law_told rfl (fun cdv A outer s H E hr tk pw =>
    (dss_cons (ds_try (kn := ["InvalidNumber", "InvalidTable", "InvalidRow"]) rfl rfl sc_law_told.nd rfl tk (fun W pn xe tk pw => (dss_one (ds_set (i := 2) sc_law_told.nd rfl (Or.inl rfl) (de_make T.mk_Machine G_Machine_init (hr.mono (by decide)) rfl T.m_Machine T.c_Machine T.b_Machine_init tk (da_cons (de_var (pv 0)) (da_cons (de_var (pv 1)) da_nil)))))) (ClOk.as_ (i := 3) (ts := (fun a cls d D σ H => cls = .ref T.a_InvalidNumber ∧ lftS (Ct.sui ⟨K, mg, none⟩ a d) W0 (mRet (mTup (mCons (mC (.str "number")) (mCons (mXf "value" (mVar 3)) mNil)))) D σ H)) ⟨rfl, by decide, Or.inl T.m_InvalidNumber⟩ rfl rfl (fun a oe cls d pn hz hf => suite_of fun hcls => (dss_one (ds_ret (de_tup (da_cons de_str (da_cons (de_xf T.x_InvalidNumber_xf T.x_InvalidNumber_no hz hf hcls (pv 3)) da_nil)))))) (ClOk.as_ (i := 3) (ts := (fun a cls d D σ H => cls = .ref T.a_InvalidTable ∧ lftS (Ct.sui ⟨K, mg, none⟩ a d) W0 (mRet (mTup (mCons (mC (.str "table")) (mCons (mXf "value" (mVar 3)) mNil)))) D σ H)) ⟨rfl, by decide, Or.inl T.m_InvalidTable⟩ rfl rfl (fun a oe cls d pn hz hf => suite_of fun hcls => (dss_one (ds_ret (de_tup (da_cons de_str (da_cons (de_xf T.x_InvalidTable_xf T.x_InvalidTable_no hz hf hcls (pv 3)) da_nil)))))) ClOk.nil)) (ClM.cons (C := "InvalidNumber") (Ca := T.a_InvalidNumber) T.known_InvalidNumber (fun a cls d D σ H hc h => ⟨cls_at hc T.m_InvalidNumber, h⟩) (ClM.cons (C := "InvalidTable") (Ca := T.a_InvalidTable) T.known_InvalidTable (fun a cls d D σ H hc h => ⟨cls_at hc T.m_InvalidTable, h⟩) ClM.nil)))
      (dss_one (ds_ret (de_tup (da_cons de_str (da_cons (de_fld T.c_Machine T.i_Machine.cl T.no_Machine_table (de_var (pv 2))) da_nil)))))))
set_option maxHeartbeats 8000000 in
theorem ok_law (T : Tx K mg) : FnOk P w K mg base (L2.CX P w) 9 T.f_law T.fd_law ["script"] (spOf ⟨K, mg, none⟩ 1 M_law) := by
  have G_law_box := ok_law_box (P := P) (w := w) (base := base) T
  have G_law_take := ok_law_take (P := P) (w := w) (base := base) T
  have G_law_table := ok_law_table (P := P) (w := w) (base := base) T
  have G_Machine_init := ok_Machine_init (P := P) (w := w) (base := base) T
  have G_Machine_len := ok_Machine_len (P := P) (w := w) (base := base) T
  have G_Machine_eq := ok_Machine_eq (P := P) (w := w) (base := base) T
  have G_law_is_due := ok_law_is_due (P := P) (w := w) (base := base) T
  have G_law_spoilt := fun n => ok_law_spoilt (P := P) (w := w) (base := base) T n
  have G_law_is_table := ok_law_is_table (P := P) (w := w) (base := base) T
  have G_law_told := ok_law_told (P := P) (w := w) (base := base) T
  have G_Machine_after := ok_Machine_after (P := P) (w := w) (base := base) T
  have G_is_row := ok_is_row (P := P) (w := w) (base := base) T
  have G_law_whole := ok_law_whole (P := P) (w := w) (base := base) T
  have G_law_after := ok_law_after (P := P) (w := w) (base := base) T
  exact dfn (k := 8) T.F_law sc_law rfl (fun cdv A outer s H E hr tk pw =>
    (dss_cons (ds_set (i := 1) sc_law.nd rfl (Or.inr rfl) (de_call G_law_box (hr.mono (by decide)) rfl T.m_law_box T.F_law_box.kp T.b_law_box tk (da_cons (de_var (pv 0)) (da_cons de_int da_nil))))
      (dss_cons (ds_set (i := 2) sc_law.nd rfl (Or.inr rfl) (de_bin op_addA od_add de_int (de_call G_law_take (hr.mono (by decide)) rfl T.m_law_take T.F_law_take.kp T.b_law_take tk (da_cons (de_var (pv 1)) (da_cons de_int da_nil)))))
      (dss_cons (ds_set (i := 3) sc_law.nd rfl (Or.inl rfl) (de_call G_law_table (hr.mono (by decide)) rfl T.m_law_table T.F_law_table.kp T.b_law_table tk (da_cons (de_call G_law_box (hr.mono (by decide)) rfl T.m_law_box T.F_law_box.kp T.b_law_box tk (da_cons (de_var (pv 0)) (da_cons de_int da_nil))) (da_cons (de_var (pv 2)) (da_cons de_int da_nil)))))
      (dss_cons (ds_set (i := 4) sc_law.nd rfl (Or.inl rfl) (de_make T.mk_Machine G_Machine_init (hr.mono (by decide)) rfl T.m_Machine T.c_Machine T.b_Machine_init tk (da_cons (de_var (pv 2)) (da_cons (de_var (pv 3)) da_nil))))
      (dss_cons (ds_if (PW.pt (dw_or (dt_cmp (op_neD hr.units) od_ne (nomark _) (de_fld T.c_Machine T.i_Machine.cl T.no_Machine_letters (de_var (pv 4))) (de_var (pv 2))) (dw_or (dt_cmp (op_neD hr.units) od_ne (nomark _) (de_fld T.c_Machine T.i_Machine.cl T.no_Machine_table (de_var (pv 4))) (de_var (pv 3))) (dw_or1 (dt_cmp (op_neD hr.units) od_ne (nomark _) (de_lenO T.c_Machine rfl T.n_len T.len_Machine T.F_Machine_len_fn G_Machine_len (hr.mono (by decide)) T.b_Machine_len (de_var (pv 4))) (de_cb call_len cd_len rfl T.n_len (by decide +kernel) (da_cons (de_var (pv 3)) da_nil)))))))
      (dss_one (ds_ret de_bl))
      dss_nil)
      (dss_cons (ds_if (PW.pt (dw_or (dt_not (dt_eqO T.c_Machine rfl T.eq_Machine T.F_Machine_eq_fn T.tup_Machine G_Machine_eq (hr.mono (by decide)) T.b_Machine_eq (de_var (pv 4)) (de_make T.mk_Machine G_Machine_init (hr.mono (by decide)) rfl T.m_Machine T.c_Machine T.b_Machine_init tk (da_cons (de_var (pv 2)) (da_cons (de_var (pv 3)) da_nil))))) (dw_or1 (dt_eqO T.c_Machine rfl T.eq_Machine T.F_Machine_eq_fn T.tup_Machine G_Machine_eq (hr.mono (by decide)) T.b_Machine_eq (de_var (pv 4)) (de_var (pv 3))))))
      (dss_one (ds_ret de_bl))
      dss_nil)
      (dss_cons (ds_set (i := 5) sc_law.nd rfl (Or.inl rfl) (de_if (dt_cmp op_lt od_lt (nomark _) (de_cb call_len cd_len rfl T.n_len (by decide +kernel) (da_cons (de_var (pv 3)) da_nil)) de_int) (de_make T.mk_Machine G_Machine_init (hr.mono (by decide)) rfl T.m_Machine T.c_Machine T.b_Machine_init tk (da_cons (de_var (pv 2)) (da_cons (de_bin op_addA od_add (de_var (pv 3)) (de_var (pv 3))) da_nil))) (de_var (pv 4))))
      (dss_cons (ds_if (dt_not (dt_val (de_call G_law_is_due (hr.mono (by decide)) rfl T.m_law_is_due T.F_law_is_due.kp T.b_law_is_due tk (da_cons (de_eqO T.c_Machine rfl T.eq_Machine T.F_Machine_eq_fn T.tup_Machine G_Machine_eq (hr.mono (by decide)) T.b_Machine_eq (de_var (pv 4)) (de_var (pv 5))) (da_cons (de_cmp op_ge od_ge (nomark _) (de_cb call_len cd_len rfl T.n_len (by decide +kernel) (da_cons (de_var (pv 3)) da_nil)) de_int) da_nil)))))
      (dss_one (ds_ret de_bl))
      dss_nil)
      (dss_cons (ds_set (i := 6) sc_law.nd rfl (Or.inl rfl) (de_lstC (da_cons (de_var (pv 3)) (da_cons (de_ct call_list_of cd_list rfl T.n_list (by decide +kernel) (da_cons (de_var (pv 3)) da_nil)) (da_cons (de_sl sl_any sd_any (de_var (pv 3)) (dpo_some de_int) dpo_none) (da_cons (de_bin op_mulA od_mulA (de_var (pv 3)) de_int) (da_cons (de_bin op_mulA od_mulA (de_var (pv 3)) de_int) (da_cons (de_tup da_nil) (da_cons de_non (da_cons de_int (da_cons (de_bin op_addA od_add (de_sl sl_any sd_any (de_var (pv 3)) dpo_none (dpo_some (de_un un_neg ud_neg de_int))) (de_tup (da_cons (de_bin op_addA od_add (de_ix ix_seq od_ix (de_var (pv 3)) (de_un un_neg ud_neg de_int)) (de_tup (da_cons de_int da_nil))) da_nil))) (da_cons (de_bin op_addA od_add (de_var (pv 3)) (de_tup (da_cons (de_ct call_list_of cd_list rfl T.n_list (by decide +kernel) (da_cons (de_ix ix_seq od_ix (de_var (pv 3)) de_int) da_nil)) da_nil))) da_nil))))))))))))
      (dss_cons (ds_set (i := 6) sc_law.nd rfl (Or.inl rfl) (de_binC op_cat oc_cat (de_var (pv 6)) (de_lst (da_cons (de_bin op_mulA od_mulA (de_tup (da_cons (de_bin op_mulA od_mulA (de_tup (da_cons (de_cb call_len cd_len rfl T.n_len (by decide +kernel) (da_cons (de_var (pv 3)) da_nil)) da_nil)) (de_var (pv 2))) da_nil)) (de_cb call_len cd_len rfl T.n_len (by decide +kernel) (da_cons (de_var (pv 3)) da_nil))) (da_cons (de_bin op_mulA od_mulA (de_tup (da_cons (de_bin op_mulA od_mulA (de_tup (da_cons (de_un un_neg ud_neg de_int) da_nil)) (de_var (pv 2))) da_nil)) (de_cb call_len cd_len rfl T.n_len (by decide +kernel) (da_cons (de_var (pv 3)) da_nil))) (da_cons (de_bin op_mulA od_mulA (de_tup (da_cons (de_bin op_mulA od_mulA (de_tup (da_cons de_bl da_nil)) (de_var (pv 2))) da_nil)) (de_cb call_len cd_len rfl T.n_len (by decide +kernel) (da_cons (de_var (pv 3)) da_nil))) da_nil))))))
      (dss_cons (ds_for pw rfl (di_rng1 rfl T.n_range (da_cons de_int da_nil)) (pg_name (i := 7) sc_law.nd rfl (Or.inl rfl)) gd_nm
      (dss_one (ds_expr (de_bm md_append (pe_bm PySem.F.plainAttrs_list PySem.F.slot_list_append PySem.F.type_list_append mt_append (de_var (pv 6)) (da_cons (de_call (G_law_spoilt 3) (hr.mono (by decide)) rfl T.m_law_spoilt T.F_law_spoilt.kp T.b_law_spoilt tk (da_cons (de_var (pv 1)) (da_cons (de_var (pv 3)) (da_cons de_int da_nil)))) da_nil))))))
      (dss_cons (ds_forC (f := 200) pw rfl rfl (de_var (pv 6)) (pg_name (i := 8) sc_law.nd rfl (Or.inl rfl)) gd_nm
      (dss_cons (ds_set (i := 9) sc_law.nd rfl (Or.inl rfl) (de_if (dt_val (de_call G_law_is_table (hr.mono (by decide)) rfl T.m_law_is_table T.F_law_is_table.kp T.b_law_is_table tk (da_cons (de_var (pv 8)) (da_cons (de_var (pv 2)) da_nil)))) (de_tup (da_cons de_str (da_cons (de_var (pv 8)) da_nil))) (de_tup (da_cons de_str (da_cons (de_var (pv 8)) da_nil)))))
      (dss_one (ds_if (dt_cmp (op_neD hr.units) od_ne (nomark _) (de_call G_law_told (hr.mono (by decide)) rfl T.m_law_told T.F_law_told.kp T.b_law_told tk (da_cons (de_var (pv 2)) (da_cons (de_var (pv 8)) da_nil))) (de_var (pv 9)))
      (dss_one (ds_ret de_bl))
      dss_nil))))
      (dss_cons (ds_for pw rfl (di_lst (de_lst (da_cons de_int (da_cons de_int (da_cons (de_un un_neg ud_neg de_int) (da_cons de_non (da_cons de_bl (da_cons de_str da_nil))))))) rfl) (pg_name (i := 10) sc_law.nd rfl (Or.inl rfl)) gd_nm
      (dss_one (ds_if (dt_cmp (op_neD hr.units) od_ne (nomark _) (de_call G_law_told (hr.mono (by decide)) rfl T.m_law_told T.F_law_told.kp T.b_law_told tk (da_cons (de_var (pv 10)) (da_cons (de_var (pv 3)) da_nil))) (de_tup (da_cons de_str (da_cons (de_var (pv 10)) da_nil))))
      (dss_one (ds_ret de_bl))
      dss_nil)))
      (dss_cons (ds_for pw rfl (di_rng1 rfl T.n_range (da_cons de_int da_nil)) (pg_name (i := 7) sc_law.nd rfl (Or.inl rfl)) gd_nm
      (dss_cons (ds_set (i := 11) sc_law.nd rfl (Or.inl rfl) (de_ct call_tuple_of cd_tuple rfl T.n_tuple (by decide +kernel) (da_cons (de_lc (own := [("day", 12)]) rfl sc_law.nd (di_rng1 rfl T.n_range (da_cons (de_call G_law_take (hr.mono (by decide)) rfl T.m_law_take T.F_law_take.kp T.b_law_take tk (da_cons (de_var (pv 1)) (da_cons de_int da_nil))) da_nil)) (blkOk_by (N := n_law) (sc := defScope s_law) (own := [("day", 12)]) (by decide +kernel)) (fun _ _ _ _ _ => (pg_name (i := 12) sc_law.nd rfl (Or.inl rfl))) (gd_own (by decide)) (fun _ _ _ _ _ => dts_nil) (fun _ _ _ _ _ => (de_call G_law_take (hr.mono (by decide)) rfl T.m_law_take T.F_law_take.kp T.b_law_take takes0 (da_cons (de_var (pv 1)) (da_cons (de_var (pv 2)) da_nil))))) da_nil)))
      (dss_cons (ds_set (i := 13) sc_law.nd rfl (Or.inl rfl) (de_meth T.c_Machine T.i_Machine.cl T.mt_Machine_after G_Machine_after (hr.mono (by decide)) T.b_Machine_after tk (de_var (pv 4)) (da_cons (de_var (pv 11)) da_nil)))
      (dss_one (ds_if (PW.pt (dw_or (dt_cmp op_notBl od_notB (nomark _) (de_call G_is_row (hr.mono (by decide)) rfl T.m_is_row T.F_is_row.kp T.b_is_row tk (da_cons (de_var (pv 11)) (da_cons (de_var (pv 2)) da_nil))) de_bl) (dw_or (dt_not (dt_val (de_call G_law_whole (hr.mono (by decide)) rfl T.m_law_whole T.F_law_whole.kp T.b_law_whole tk (da_cons (de_var (pv 13)) da_nil)))) (dw_or1 (dt_cmp (op_neD hr.units) od_ne (nomark _) (de_var (pv 13)) (de_call G_law_after (hr.mono (by decide)) rfl T.m_law_after T.F_law_after.kp T.b_law_after tk (da_cons (de_var (pv 3)) (da_cons (de_var (pv 11)) da_nil))))))))
      (dss_one (ds_ret de_bl))
      dss_nil)))))
      (dss_cons (ds_set (i := 11) sc_law.nd rfl (Or.inl rfl) (de_bin op_mulA od_mulA (de_ct call_tuple_of cd_tuple rfl T.n_tuple (by decide +kernel) (da_cons (de_lc (own := [("day", 12)]) rfl sc_law.nd (di_rng1 rfl T.n_range (da_cons de_int da_nil)) (blkOk_by (N := n_law) (sc := defScope s_law) (own := [("day", 12)]) (by decide +kernel)) (fun _ _ _ _ _ => (pg_name (i := 12) sc_law.nd rfl (Or.inl rfl))) (gd_own (by decide)) (fun _ _ _ _ _ => dts_nil) (fun _ _ _ _ _ => (de_call G_law_take (hr.mono (by decide)) rfl T.m_law_take T.F_law_take.kp T.b_law_take takes0 (da_cons (de_var (pv 1)) (da_cons (de_var (pv 2)) da_nil))))) da_nil)) de_int))
      (dss_cons (ds_set (i := 14) sc_law.nd rfl (Or.inl rfl) (de_make T.mk_Machine G_Machine_init (hr.mono (by decide)) rfl T.m_Machine T.c_Machine T.b_Machine_init tk (da_cons (de_var (pv 2)) (da_cons (de_ct call_tuple_of cd_tuple rfl T.n_tuple (by decide +kernel) (da_cons (de_lc (own := [("line", 16)]) rfl sc_law.nd (di_tup (de_var (pv 3)) rfl) (blkOk_by (N := n_law) (sc := defScope s_law) (own := [("line", 16)]) (by decide +kernel)) (fun _ _ _ _ _ => (pg_name (i := 16) sc_law.nd rfl (Or.inl rfl))) (gd_own (by decide)) (fun _ _ _ _ _ => dts_nil) (fun _ _ _ _ _ => (de_ct call_tuple_of cd_tuple rfl T.n_tuple (by decide +kernel) (da_cons (de_lc (own := [("one", 15)]) rfl sc_law.nd (di_tup (de_var (pv 16)) rfl) (blkOk_in (N := n_law) (sc := defScope s_law) (own := [("one", 15)]) rfl (by decide +kernel)) (fun _ _ _ _ _ => (pg_name (i := 15) sc_law.nd rfl (Or.inl rfl))) (gd_own (by decide)) (fun _ _ _ _ _ => dts_nil) (fun _ _ _ _ _ => (de_cb (call_max2 rfl) cd_max2 rfl T.n_max (by decide +kernel) (da_cons de_int (da_cons (de_var (pv 15)) da_nil))))) da_nil)))) da_nil)) da_nil))))
      (dss_cons (ds_if (PW.pt (dw_or (dt_cmp (op_neD hr.units) od_ne (nomark _) (de_meth T.c_Machine T.i_Machine.cl T.mt_Machine_after G_Machine_after (hr.mono (by decide)) T.b_Machine_after tk (de_var (pv 4)) (da_cons (de_var (pv 11)) da_nil)) (de_call G_law_after (hr.mono (by decide)) rfl T.m_law_after T.F_law_after.kp T.b_law_after tk (da_cons (de_var (pv 3)) (da_cons (de_var (pv 11)) da_nil)))) (dw_or (dt_cmp (op_neD hr.units) od_ne (nomark _) (de_meth T.c_Machine T.i_Machine.cl T.mt_Machine_after G_Machine_after (hr.mono (by decide)) T.b_Machine_after tk (de_var (pv 14)) (da_cons (de_var (pv 11)) da_nil)) (de_call G_law_after (hr.mono (by decide)) rfl T.m_law_after T.F_law_after.kp T.b_law_after tk (da_cons (de_fld T.c_Machine T.i_Machine.cl T.no_Machine_table (de_var (pv 14))) (da_cons (de_var (pv 11)) da_nil)))) (dw_or1 (dt_cmp op_notBl od_notB (nomark _) (de_call G_is_row (hr.mono (by decide)) rfl T.m_is_row T.F_is_row.kp T.b_is_row tk (da_cons (de_var (pv 11)) (da_cons (de_var (pv 2)) da_nil))) de_bl)))))
      (dss_one (ds_ret de_bl))
      dss_nil)
      (dss_cons (ds_for pw rfl (di_lst (de_lst (da_cons (de_lst (da_cons de_int da_nil)) (da_cons (de_tup (da_cons (de_var (pv 2)) da_nil)) (da_cons (de_tup (da_cons (de_un un_neg ud_neg de_int) da_nil)) (da_cons (de_tup (da_cons de_bl da_nil)) (da_cons de_non (da_cons de_int (da_cons de_str (da_cons (de_tup (da_cons (de_tup (da_cons de_int da_nil)) da_nil)) da_nil))))))))) rfl) (pg_name (i := 10) sc_law.nd rfl (Or.inl rfl)) gd_nm
      (dss_cons (ds_if (dt_cmp op_notBl od_notB (nomark _) (de_call G_is_row (hr.mono (by decide)) rfl T.m_is_row T.F_is_row.kp T.b_is_row tk (da_cons (de_var (pv 10)) (da_cons (de_var (pv 2)) da_nil))) de_bl)
      (dss_one (ds_ret de_bl))
      dss_nil)
      (dss_one (ds_try (kn := ["InvalidNumber", "InvalidTable", "InvalidRow"]) rfl rfl sc_law.nd rfl tk (fun W pn xe tk pw => (dss_cons (ds_expr (de_meth T.c_Machine T.i_Machine.cl T.mt_Machine_after G_Machine_after (hr.mono (by decide)) T.b_Machine_after tk (de_var (pv 4)) (da_cons (de_var (pv 10)) da_nil)))
      (dss_one (ds_ret de_bl)))) (ClOk.as_ (i := 17) (ts := (fun a cls d D σ H => cls = .ref T.a_InvalidRow ∧ lftS (Ct.sui ⟨K, mg, none⟩ a d) W0 (mIfS (mB (mBin (fEq true) (mXf "value" (mVar 17)) (mVar 10)))
    (mRet (mC (.bl false)))
    mSkip) D σ H)) ⟨rfl, by decide, Or.inl T.m_InvalidRow⟩ rfl rfl (fun a oe cls d pn hz hf => suite_of fun hcls => (dss_one (ds_if (dt_cmp (op_neD hr.units) od_ne (nomark _) (de_xf T.x_InvalidRow_xf T.x_InvalidRow_no hz hf hcls (pv 17)) (de_var (pv 10)))
      (dss_one (ds_ret de_bl))
      dss_nil))) ClOk.nil) (ClM.cons (C := "InvalidRow") (Ca := T.a_InvalidRow) T.known_InvalidRow (fun a cls d D σ H hc h => ⟨cls_at hc T.m_InvalidRow, h⟩) ClM.nil)))))
      (dss_one (ds_ret de_bl)))))))))))))))))))))
end
end K02
namespace K02
open PySem PySem.Spec PyProof.Rows L2 Dw
theorem walk {l : PySem.W.OpenLaw} {q : Program} {loose : List Str} {XP : (Str → Option Value) → Heap → Prop} {YP : World → Heap → Prop} {d : DefRec} {K : Params → PySem.W.Frag} (hn : l.most = some 63) (hdf : d.params.defaults = [])
    (hY : ∀ (w : World) (h : Heap), YP w h → (K w.params).In h)
    (F : ∀ (w : World) (mg : Str → Option Value) (fa : Addr) (h : Heap), (K w.params).In h → h.Ns mainGlobals mg → mg d.name = some (.ref fa) →
      ∃ fd : FuncData, (∀ (s : Shared) (u : Value), BindsTo s fd ⟨[u], []⟩ [("script", u)]) ∧ ∀ base : Heap, (K w.params).In base → base.Ns mainGlobals mg → FnOk l.prog w (K w.params) mg base (L2.CX l.prog w) 9 fa fd ["script"] (spOf ⟨K w.params, mg, none⟩ 1 M_law)) :
    PySem.W.WalkO q loose XP YP l.row.toRowW d [] (fun f vs => PySem.call f vs) :=
  walk_law hn hdf hY F M_law_true ⟨rfl, by decide, by decide⟩
end K02
namespace K02
open PySem PySem.Spec PyProof.Rows L2 Dw
theorem all_mk {P : Program} {w : World} {K : PySem.W.Frag} {h : Heap} {mg : Str → Option Value} {fa : Addr} (X : K.In h) (G : h.Ns mainGlobals mg) (hfa : mg "law" = some (.ref fa))
    {N_InvalidNumber : Addr} {N_InvalidRow : Addr} {N_InvalidTable : Addr} {a_InvalidNumber : Addr} {a_InvalidRow : Addr} {a_InvalidTable : Addr} {a_Machine : Addr} {ab_InvalidNumber : Bool} {ab_InvalidRow : Bool} {ab_InvalidTable : Bool} {an_InvalidNumber_init : Option Addr} {an_InvalidRow_init : Option Addr} {an_InvalidTable_init : Option Addr} {an_Machine_after : Option Addr} {an_Machine_eq : Option Addr} {an_Machine_init : Option Addr} {an_Machine_len : Option Addr} {an_are_within : Option Addr} {an_is_integer : Option Addr} {an_is_row : Option Addr} {an_is_table : Option Addr} {an_is_tuple : Option Addr} {an_is_within : Option Addr} {an_law : Option Addr} {an_law_after : Option Addr} {an_law_box : Option Addr} {an_law_is_due : Option Addr} {an_law_is_table : Option Addr} {an_law_pick : Option Addr} {an_law_spoilt : Option Addr} {an_law_table : Option Addr} {an_law_take : Option Addr} {an_law_told : Option Addr} {an_law_whole : Option Addr} {bm_InvalidNumber : List Value} {bm_InvalidRow : List Value} {bm_InvalidTable : List Value} {bs_InvalidNumber : List Value} {bs_InvalidRow : List Value} {bs_InvalidTable : List Value} {cd_InvalidNumber_init : Value} {cd_InvalidRow_init : Value} {cd_InvalidTable_init : Value} {cd_Machine_after : Value} {cd_Machine_eq : Value} {cd_Machine_init : Value} {cd_Machine_len : Value} {cd_are_within : Value} {cd_is_integer : Value} {cd_is_row : Value} {cd_is_table : Value} {cd_is_tuple : Value} {cd_is_within : Value} {cd_law : Value} {cd_law_after : Value} {cd_law_box : Value} {cd_law_is_due : Value} {cd_law_is_table : Value} {cd_law_pick : Value} {cd_law_spoilt : Value} {cd_law_table : Value} {cd_law_take : Value} {cd_law_told : Value} {cd_law_whole : Value} {col_InvalidNumber : Option Bool} {col_InvalidRow : Option Bool} {col_InvalidTable : Option Bool} {ct_InvalidNumber_init : Value} {ct_InvalidRow_init : Value} {ct_InvalidTable_init : Value} {ct_Machine_after : Value} {ct_Machine_eq : Value} {ct_Machine_init : Value} {ct_Machine_len : Value} {ct_are_within : Value} {ct_is_integer : Value} {ct_is_row : Value} {ct_is_table : Value} {ct_is_tuple : Value} {ct_is_within : Value} {ct_law : Value} {ct_law_after : Value} {ct_law_box : Value} {ct_law_is_due : Value} {ct_law_is_table : Value} {ct_law_pick : Value} {ct_law_spoilt : Value} {ct_law_table : Value} {ct_law_take : Value} {ct_law_told : Value} {ct_law_whole : Value} {dc_InvalidNumber_init : Value} {dc_InvalidRow_init : Value} {dc_InvalidTable_init : Value} {dc_Machine_after : Value} {dc_Machine_eq : Value} {dc_Machine_init : Value} {dc_Machine_len : Value} {dc_are_within : Value} {dc_is_integer : Value} {dc_is_row : Value} {dc_is_table : Value} {dc_is_tuple : Value} {dc_is_within : Value} {dc_law : Value} {dc_law_after : Value} {dc_law_box : Value} {dc_law_is_due : Value} {dc_law_is_table : Value} {dc_law_pick : Value} {dc_law_spoilt : Value} {dc_law_table : Value} {dc_law_take : Value} {dc_law_told : Value} {dc_law_whole : Value} {dd_InvalidNumber : Option Addr} {dd_InvalidRow : Option Addr} {dd_InvalidTable : Option Addr} {f_InvalidNumber_init : Addr} {f_InvalidRow_init : Addr} {f_InvalidTable_init : Addr} {f_Machine_after : Addr} {f_Machine_eq : Addr} {f_Machine_init : Addr} {f_Machine_len : Addr} {f_are_within : Addr} {f_is_integer : Addr} {f_is_row : Addr} {f_is_table : Addr} {f_is_tuple : Addr} {f_is_within : Addr} {f_law : Addr} {f_law_after : Addr} {f_law_box : Addr} {f_law_is_due : Addr} {f_law_is_table : Addr} {f_law_pick : Addr} {f_law_spoilt : Addr} {f_law_table : Addr} {f_law_take : Addr} {f_law_told : Addr} {f_law_whole : Addr} {kV_InvalidNumber_init : Value} {kV_InvalidRow_init : Value} {kV_InvalidTable_init : Value} {kV_Machine_after : Value} {kV_Machine_eq : Value} {kV_Machine_init : Value} {kV_Machine_len : Value} {kV_are_within : Value} {kV_is_integer : Value} {kV_is_row : Value} {kV_is_table : Value} {kV_is_tuple : Value} {kV_is_within : Value} {kV_law : Value} {kV_law_after : Value} {kV_law_box : Value} {kV_law_is_due : Value} {kV_law_is_table : Value} {kV_law_pick : Value} {kV_law_spoilt : Value} {kV_law_table : Value} {kV_law_take : Value} {kV_law_told : Value} {kV_law_whole : Value} {m0_InvalidNumber : Option Value} {m0_InvalidRow : Option Value} {m0_InvalidTable : Option Value} {m1_InvalidNumber : Option Value} {m1_InvalidRow : Option Value} {m1_InvalidTable : Option Value} {m2_InvalidNumber : Option Value} {m2_InvalidRow : Option Value} {m2_InvalidTable : Option Value} {m3_InvalidNumber : Option Value} {m3_InvalidRow : Option Value} {m3_InvalidTable : Option Value} {m5_InvalidNumber : Option Value} {m5_InvalidRow : Option Value} {m5_InvalidTable : Option Value} {nm_InvalidNumber : Str} {nm_InvalidRow : Str} {nm_InvalidTable : Str} {oc_InvalidNumber_init : Value} {oc_InvalidRow_init : Value} {oc_InvalidTable_init : Value} {oc_Machine_after : Value} {oc_Machine_eq : Value} {oc_Machine_init : Value} {oc_Machine_len : Value} {oc_are_within : Value} {oc_is_integer : Value} {oc_is_row : Value} {oc_is_table : Value} {oc_is_tuple : Value} {oc_is_within : Value} {oc_law : Value} {oc_law_after : Value} {oc_law_box : Value} {oc_law_is_due : Value} {oc_law_is_table : Value} {oc_law_pick : Value} {oc_law_spoilt : Value} {oc_law_table : Value} {oc_law_take : Value} {oc_law_told : Value} {oc_law_whole : Value} {od_InvalidNumber_init : Option Addr} {od_InvalidRow_init : Option Addr} {od_InvalidTable_init : Option Addr} {od_Machine_after : Option Addr} {od_Machine_eq : Option Addr} {od_Machine_init : Option Addr} {od_Machine_len : Option Addr} {od_are_within : Option Addr} {od_is_integer : Option Addr} {od_is_row : Option Addr} {od_is_table : Option Addr} {od_is_tuple : Option Addr} {od_is_within : Option Addr} {od_law : Option Addr} {od_law_after : Option Addr} {od_law_box : Option Addr} {od_law_is_due : Option Addr} {od_law_is_table : Option Addr} {od_law_pick : Option Addr} {od_law_spoilt : Option Addr} {od_law_table : Option Addr} {od_law_take : Option Addr} {od_law_told : Option Addr} {od_law_whole : Option Addr} {pm_InvalidNumber_init : Value} {pm_InvalidRow_init : Value} {pm_InvalidTable_init : Value} {pm_Machine_after : Value} {pm_Machine_eq : Value} {pm_Machine_init : Value} {pm_Machine_len : Value} {pm_are_within : Value} {pm_is_integer : Value} {pm_is_row : Value} {pm_is_table : Value} {pm_is_tuple : Value} {pm_is_within : Value} {pm_law : Value} {pm_law_after : Value} {pm_law_box : Value} {pm_law_is_due : Value} {pm_law_is_table : Value} {pm_law_pick : Value} {pm_law_spoilt : Value} {pm_law_table : Value} {pm_law_take : Value} {pm_law_told : Value} {pm_law_whole : Value} {q_InvalidNumber : Str} {q_InvalidRow : Str} {q_InvalidTable : Str} {sl_InvalidNumber_init : Array (Option Value)} {sl_InvalidRow_init : Array (Option Value)} {sl_InvalidTable_init : Array (Option Value)} {sl_Machine_after : Array (Option Value)} {sl_Machine_eq : Array (Option Value)} {sl_Machine_init : Array (Option Value)} {sl_Machine_len : Array (Option Value)} {sl_are_within : Array (Option Value)} {sl_is_integer : Array (Option Value)} {sl_is_row : Array (Option Value)} {sl_is_table : Array (Option Value)} {sl_is_tuple : Array (Option Value)} {sl_is_within : Array (Option Value)} {sl_law : Array (Option Value)} {sl_law_after : Array (Option Value)} {sl_law_box : Array (Option Value)} {sl_law_is_due : Array (Option Value)} {sl_law_is_table : Array (Option Value)} {sl_law_pick : Array (Option Value)} {sl_law_spoilt : Array (Option Value)} {sl_law_table : Array (Option Value)} {sl_law_take : Array (Option Value)} {sl_law_told : Array (Option Value)} {sl_law_whole : Array (Option Value)} {sn_InvalidNumber : List Str} {sn_InvalidRow : List Str} {sn_InvalidTable : List Str} {sub_InvalidNumber : List Value} {sub_InvalidRow : List Value} {sub_InvalidTable : List Value} {t_MOST_STATES : Tok}
    (g_Machine : PySem.W.nsIn K mainGlobals "Machine" = some (some (.ref a_Machine)))
    (pg_Machine : PySem.W.plainGet K a_Machine Str.empty = true)
    (hd_Machine : PySem.W.hasDictIn K a_Machine = true)
    (po_Machine : PySem.W.plainOver K a_Machine = true)
    (sa_Machine : PySem.W.findIn K (.ref a_Machine) "__setattr__" = some (some (.builtin "object.__setattr__")))
    (mk_Machine : PySem.W.makesIn K a_Machine = true)
    (kc_Machine : PySem.W.keepIn K (.ref a_Machine) = true)
    (ha_Machine : PySem.W.findIn K (.ref a_Machine) "__class__" = some (some (.builtin "object.__class__")))
    (hn_Machine : PySem.W.specialIn K (.builtin "object.__class__") "__get__" = some (some (.builtin "getset_descriptor.__get__")))
    (ht_Machine : PySem.W.takesIn K (.builtin "object.__class__") = some true)
    (hm_Machine : PySem.W.mroIn K a_Machine (.type "object") = some true)
    (ic_Machine : PySem.W.isClsIn K a_Machine = true)
    (ty_Machine : PySem.W.typeIn K (.ref a_Machine) = some (.type "type"))
    (sNoneType_Machine : PySem.W.subIn K (.type "NoneType") (.ref a_Machine) = some false)
    (sbool_Machine : PySem.W.subIn K (.type "bool") (.ref a_Machine) = some false)
    (sint_Machine : PySem.W.subIn K (.type "int") (.ref a_Machine) = some false)
    (sstr_Machine : PySem.W.subIn K (.type "str") (.ref a_Machine) = some false)
    (stuple_Machine : PySem.W.subIn K (.type "tuple") (.ref a_Machine) = some false)
    (slist_Machine : PySem.W.subIn K (.type "list") (.ref a_Machine) = some false)
    (no_Machine_letters : PySem.W.findIn K (.ref a_Machine) "letters" = some none)
    (no_Machine_table : PySem.W.findIn K (.ref a_Machine) "table" = some none)
    (a_is_integer_g : PySem.W.nsIn K mainGlobals "is_integer" = some (some (.ref f_is_integer)))
    (l_is_integer : K.lookup f_is_integer = some ⟨oc_is_integer, od_is_integer, .func (PySem.W.fnOf "is_integer" "is_integer" (defArgs s_is_integer) (defBody s_is_integer) (defScope s_is_integer) .none kV_is_integer dc_is_integer pm_is_integer an_is_integer cd_is_integer ct_is_integer), sl_is_integer⟩)
    (c_is_integer : PySem.W.codeIn K cd_is_integer "is_integer" = true)
    (k_is_integer : PySem.W.keepIn K (.ref f_is_integer) = true)
    (a_is_within_g : PySem.W.nsIn K mainGlobals "is_within" = some (some (.ref f_is_within)))
    (l_is_within : K.lookup f_is_within = some ⟨oc_is_within, od_is_within, .func (PySem.W.fnOf "is_within" "is_within" (defArgs s_is_within) (defBody s_is_within) (defScope s_is_within) .none kV_is_within dc_is_within pm_is_within an_is_within cd_is_within ct_is_within), sl_is_within⟩)
    (c_is_within : PySem.W.codeIn K cd_is_within "is_within" = true)
    (k_is_within : PySem.W.keepIn K (.ref f_is_within) = true)
    (a_is_tuple_g : PySem.W.nsIn K mainGlobals "is_tuple" = some (some (.ref f_is_tuple)))
    (l_is_tuple : K.lookup f_is_tuple = some ⟨oc_is_tuple, od_is_tuple, .func (PySem.W.fnOf "is_tuple" "is_tuple" (defArgs s_is_tuple) (defBody s_is_tuple) (defScope s_is_tuple) .none kV_is_tuple dc_is_tuple pm_is_tuple an_is_tuple cd_is_tuple ct_is_tuple), sl_is_tuple⟩)
    (c_is_tuple : PySem.W.codeIn K cd_is_tuple "is_tuple" = true)
    (k_is_tuple : PySem.W.keepIn K (.ref f_is_tuple) = true)
    (a_are_within_g : PySem.W.nsIn K mainGlobals "are_within" = some (some (.ref f_are_within)))
    (l_are_within : K.lookup f_are_within = some ⟨oc_are_within, od_are_within, .func (PySem.W.fnOf "are_within" "are_within" (defArgs s_are_within) (defBody s_are_within) (defScope s_are_within) .none kV_are_within dc_are_within pm_are_within an_are_within cd_are_within ct_are_within), sl_are_within⟩)
    (c_are_within : PySem.W.codeIn K cd_are_within "are_within" = true)
    (k_are_within : PySem.W.keepIn K (.ref f_are_within) = true)
    (a_is_row_g : PySem.W.nsIn K mainGlobals "is_row" = some (some (.ref f_is_row)))
    (l_is_row : K.lookup f_is_row = some ⟨oc_is_row, od_is_row, .func (PySem.W.fnOf "is_row" "is_row" (defArgs s_is_row) (defBody s_is_row) (defScope s_is_row) .none kV_is_row dc_is_row pm_is_row an_is_row cd_is_row ct_is_row), sl_is_row⟩)
    (c_is_row : PySem.W.codeIn K cd_is_row "is_row" = true)
    (k_is_row : PySem.W.keepIn K (.ref f_is_row) = true)
    (a_is_table_g : PySem.W.nsIn K mainGlobals "is_table" = some (some (.ref f_is_table)))
    (l_is_table : K.lookup f_is_table = some ⟨oc_is_table, od_is_table, .func (PySem.W.fnOf "is_table" "is_table" (defArgs s_is_table) (defBody s_is_table) (defScope s_is_table) .none kV_is_table dc_is_table pm_is_table an_is_table cd_is_table ct_is_table), sl_is_table⟩)
    (c_is_table : PySem.W.codeIn K cd_is_table "is_table" = true)
    (k_is_table : PySem.W.keepIn K (.ref f_is_table) = true)
    (a_Machine_init_g : PySem.W.findIn K (.ref a_Machine) "__init__" = some (some (.ref f_Machine_init)))
    (i_Machine_init_f : PySem.W.isFn K (.ref f_Machine_init) = true)
    (l_Machine_init : K.lookup f_Machine_init = some ⟨oc_Machine_init, od_Machine_init, .func (PySem.W.fnOf "__init__" "Machine.__init__" (defArgs s_Machine_init) (defBody s_Machine_init) (defScope s_Machine_init) .none kV_Machine_init dc_Machine_init pm_Machine_init an_Machine_init cd_Machine_init ct_Machine_init), sl_Machine_init⟩)
    (c_Machine_init : PySem.W.codeIn K cd_Machine_init "Machine.__init__" = true)
    (k_Machine_init : PySem.W.keepIn K (.ref f_Machine_init) = true)
    (a_Machine_len_g : PySem.W.findIn K (.ref a_Machine) "__len__" = some (some (.ref f_Machine_len)))
    (i_Machine_len_f : PySem.W.isFn K (.ref f_Machine_len) = true)
    (l_Machine_len : K.lookup f_Machine_len = some ⟨oc_Machine_len, od_Machine_len, .func (PySem.W.fnOf "__len__" "Machine.__len__" (defArgs s_Machine_len) (defBody s_Machine_len) (defScope s_Machine_len) .none kV_Machine_len dc_Machine_len pm_Machine_len an_Machine_len cd_Machine_len ct_Machine_len), sl_Machine_len⟩)
    (c_Machine_len : PySem.W.codeIn K cd_Machine_len "Machine.__len__" = true)
    (k_Machine_len : PySem.W.keepIn K (.ref f_Machine_len) = true)
    (a_Machine_eq_g : PySem.W.findIn K (.ref a_Machine) "__eq__" = some (some (.ref f_Machine_eq)))
    (i_Machine_eq_f : PySem.W.isFn K (.ref f_Machine_eq) = true)
    (l_Machine_eq : K.lookup f_Machine_eq = some ⟨oc_Machine_eq, od_Machine_eq, .func (PySem.W.fnOf "__eq__" "Machine.__eq__" (defArgs s_Machine_eq) (defBody s_Machine_eq) (defScope s_Machine_eq) .none kV_Machine_eq dc_Machine_eq pm_Machine_eq an_Machine_eq cd_Machine_eq ct_Machine_eq), sl_Machine_eq⟩)
    (c_Machine_eq : PySem.W.codeIn K cd_Machine_eq "Machine.__eq__" = true)
    (k_Machine_eq : PySem.W.keepIn K (.ref f_Machine_eq) = true)
    (a_Machine_after_g : PySem.W.findIn K (.ref a_Machine) "after" = some (some (.ref f_Machine_after)))
    (i_Machine_after_f : PySem.W.isFn K (.ref f_Machine_after) = true)
    (l_Machine_after : K.lookup f_Machine_after = some ⟨oc_Machine_after, od_Machine_after, .func (PySem.W.fnOf "after" "Machine.after" (defArgs s_Machine_after) (defBody s_Machine_after) (defScope s_Machine_after) .none kV_Machine_after dc_Machine_after pm_Machine_after an_Machine_after cd_Machine_after ct_Machine_after), sl_Machine_after⟩)
    (c_Machine_after : PySem.W.codeIn K cd_Machine_after "Machine.after" = true)
    (k_Machine_after : PySem.W.keepIn K (.ref f_Machine_after) = true)
    (a_law_box_g : PySem.W.nsIn K mainGlobals "_law_box" = some (some (.ref f_law_box)))
    (l_law_box : K.lookup f_law_box = some ⟨oc_law_box, od_law_box, .func (PySem.W.fnOf "_law_box" "_law_box" (defArgs s_law_box) (defBody s_law_box) (defScope s_law_box) .none kV_law_box dc_law_box pm_law_box an_law_box cd_law_box ct_law_box), sl_law_box⟩)
    (c_law_box : PySem.W.codeIn K cd_law_box "_law_box" = true)
    (k_law_box : PySem.W.keepIn K (.ref f_law_box) = true)
    (a_law_take_g : PySem.W.nsIn K mainGlobals "_law_take" = some (some (.ref f_law_take)))
    (l_law_take : K.lookup f_law_take = some ⟨oc_law_take, od_law_take, .func (PySem.W.fnOf "_law_take" "_law_take" (defArgs s_law_take) (defBody s_law_take) (defScope s_law_take) .none kV_law_take dc_law_take pm_law_take an_law_take cd_law_take ct_law_take), sl_law_take⟩)
    (c_law_take : PySem.W.codeIn K cd_law_take "_law_take" = true)
    (k_law_take : PySem.W.keepIn K (.ref f_law_take) = true)
    (a_law_pick_g : PySem.W.nsIn K mainGlobals "_law_pick" = some (some (.ref f_law_pick)))
    (l_law_pick : K.lookup f_law_pick = some ⟨oc_law_pick, od_law_pick, .func (PySem.W.fnOf "_law_pick" "_law_pick" (defArgs s_law_pick) (defBody s_law_pick) (defScope s_law_pick) .none kV_law_pick dc_law_pick pm_law_pick an_law_pick cd_law_pick ct_law_pick), sl_law_pick⟩)
    (c_law_pick : PySem.W.codeIn K cd_law_pick "_law_pick" = true)
    (k_law_pick : PySem.W.keepIn K (.ref f_law_pick) = true)
    (a_law_whole_g : PySem.W.nsIn K mainGlobals "_law_whole" = some (some (.ref f_law_whole)))
    (l_law_whole : K.lookup f_law_whole = some ⟨oc_law_whole, od_law_whole, .func (PySem.W.fnOf "_law_whole" "_law_whole" (defArgs s_law_whole) (defBody s_law_whole) (defScope s_law_whole) .none kV_law_whole dc_law_whole pm_law_whole an_law_whole cd_law_whole ct_law_whole), sl_law_whole⟩)
    (c_law_whole : PySem.W.codeIn K cd_law_whole "_law_whole" = true)
    (k_law_whole : PySem.W.keepIn K (.ref f_law_whole) = true)
    (a_law_is_due_g : PySem.W.nsIn K mainGlobals "_law_is_due" = some (some (.ref f_law_is_due)))
    (l_law_is_due : K.lookup f_law_is_due = some ⟨oc_law_is_due, od_law_is_due, .func (PySem.W.fnOf "_law_is_due" "_law_is_due" (defArgs s_law_is_due) (defBody s_law_is_due) (defScope s_law_is_due) .none kV_law_is_due dc_law_is_due pm_law_is_due an_law_is_due cd_law_is_due ct_law_is_due), sl_law_is_due⟩)
    (c_law_is_due : PySem.W.codeIn K cd_law_is_due "_law_is_due" = true)
    (k_law_is_due : PySem.W.keepIn K (.ref f_law_is_due) = true)
    (a_law_spoilt_g : PySem.W.nsIn K mainGlobals "_law_spoilt" = some (some (.ref f_law_spoilt)))
    (l_law_spoilt : K.lookup f_law_spoilt = some ⟨oc_law_spoilt, od_law_spoilt, .func (PySem.W.fnOf "_law_spoilt" "_law_spoilt" (defArgs s_law_spoilt) (defBody s_law_spoilt) (defScope s_law_spoilt) .none kV_law_spoilt dc_law_spoilt pm_law_spoilt an_law_spoilt cd_law_spoilt ct_law_spoilt), sl_law_spoilt⟩)
    (c_law_spoilt : PySem.W.codeIn K cd_law_spoilt "_law_spoilt" = true)
    (k_law_spoilt : PySem.W.keepIn K (.ref f_law_spoilt) = true)
    (a_law_table_g : PySem.W.nsIn K mainGlobals "_law_table" = some (some (.ref f_law_table)))
    (l_law_table : K.lookup f_law_table = some ⟨oc_law_table, od_law_table, .func (PySem.W.fnOf "_law_table" "_law_table" (defArgs s_law_table) (defBody s_law_table) (defScope s_law_table) .none kV_law_table dc_law_table pm_law_table an_law_table cd_law_table ct_law_table), sl_law_table⟩)
    (c_law_table : PySem.W.codeIn K cd_law_table "_law_table" = true)
    (k_law_table : PySem.W.keepIn K (.ref f_law_table) = true)
    (a_law_after_g : PySem.W.nsIn K mainGlobals "_law_after" = some (some (.ref f_law_after)))
    (l_law_after : K.lookup f_law_after = some ⟨oc_law_after, od_law_after, .func (PySem.W.fnOf "_law_after" "_law_after" (defArgs s_law_after) (defBody s_law_after) (defScope s_law_after) .none kV_law_after dc_law_after pm_law_after an_law_after cd_law_after ct_law_after), sl_law_after⟩)
    (c_law_after : PySem.W.codeIn K cd_law_after "_law_after" = true)
    (k_law_after : PySem.W.keepIn K (.ref f_law_after) = true)
    (a_law_is_table_g : PySem.W.nsIn K mainGlobals "_law_is_table" = some (some (.ref f_law_is_table)))
    (l_law_is_table : K.lookup f_law_is_table = some ⟨oc_law_is_table, od_law_is_table, .func (PySem.W.fnOf "_law_is_table" "_law_is_table" (defArgs s_law_is_table) (defBody s_law_is_table) (defScope s_law_is_table) .none kV_law_is_table dc_law_is_table pm_law_is_table an_law_is_table cd_law_is_table ct_law_is_table), sl_law_is_table⟩)
    (c_law_is_table : PySem.W.codeIn K cd_law_is_table "_law_is_table" = true)
    (k_law_is_table : PySem.W.keepIn K (.ref f_law_is_table) = true)
    (a_law_told_g : PySem.W.nsIn K mainGlobals "_law_told" = some (some (.ref f_law_told)))
    (l_law_told : K.lookup f_law_told = some ⟨oc_law_told, od_law_told, .func (PySem.W.fnOf "_law_told" "_law_told" (defArgs s_law_told) (defBody s_law_told) (defScope s_law_told) .none kV_law_told dc_law_told pm_law_told an_law_told cd_law_told ct_law_told), sl_law_told⟩)
    (c_law_told : PySem.W.codeIn K cd_law_told "_law_told" = true)
    (k_law_told : PySem.W.keepIn K (.ref f_law_told) = true)
    (a_law_g : PySem.W.nsIn K mainGlobals "law" = some (some (.ref f_law)))
    (l_law : K.lookup f_law = some ⟨oc_law, od_law, .func (PySem.W.fnOf "law" "law" (defArgs s_law) (defBody s_law) (defScope s_law) .none kV_law dc_law pm_law an_law cd_law ct_law), sl_law⟩)
    (c_law : PySem.W.codeIn K cd_law "law" = true)
    (k_law : PySem.W.keepIn K (.ref f_law) = true)
    (g_InvalidNumber : PySem.W.nsIn K mainGlobals "InvalidNumber" = some (some (.ref a_InvalidNumber)))
    (xL_InvalidNumber : K.lookup a_InvalidNumber = some (excClassObj nm_InvalidNumber q_InvalidNumber a_InvalidNumber N_InvalidNumber bs_InvalidNumber bm_InvalidNumber true sn_InvalidNumber sub_InvalidNumber ab_InvalidNumber col_InvalidNumber dd_InvalidNumber m0_InvalidNumber m1_InvalidNumber m2_InvalidNumber m3_InvalidNumber m5_InvalidNumber "ValueError.__new__"))
    (ve_InvalidNumber : PySem.HandSPX.refsVE bm_InvalidNumber = true)
    (sa_InvalidNumber : PySem.W.findIn K (.ref a_InvalidNumber) "__setattr__" = some (some (.builtin "object.__setattr__")))
    (ga_InvalidNumber : PySem.W.findIn K (.ref a_InvalidNumber) "__getattribute__" = some (some (.builtin "BaseException.__getattribute__")))
    (gg_InvalidNumber : PySem.W.findIn K (.ref a_InvalidNumber) "__getattr__" = some none)
    (no_InvalidNumber : PySem.W.findIn K (.ref a_InvalidNumber) "value" = some none)
    (in_InvalidNumber : PySem.W.findIn K (.ref a_InvalidNumber) "__init__" = some (some (.ref f_InvalidNumber_init)))
    (ti_InvalidNumber : PySem.W.typeIn K (.ref f_InvalidNumber_init) = some (.type "function"))
    (l_InvalidNumber_init : K.lookup f_InvalidNumber_init = some ⟨oc_InvalidNumber_init, od_InvalidNumber_init, .func (PySem.W.fnOf "__init__" "InvalidNumber.__init__" (defArgs s_InvalidNumber_init) (defBody s_InvalidNumber_init) (defScope s_InvalidNumber_init) .none kV_InvalidNumber_init dc_InvalidNumber_init pm_InvalidNumber_init an_InvalidNumber_init cd_InvalidNumber_init ct_InvalidNumber_init), sl_InvalidNumber_init⟩)
    (c_InvalidNumber_init : PySem.W.codeIn K cd_InvalidNumber_init "InvalidNumber.__init__" = true)
    (k_InvalidNumber_init : PySem.W.keepIn K (.ref f_InvalidNumber_init) = true)
    (kC_InvalidNumber : PySem.W.keepIn K (.ref a_InvalidNumber) = true)
    (eC_InvalidNumber : PySem.W.subIn K (.ref a_InvalidNumber) (.type "BaseException") = some true)
    (tC_InvalidNumber : PySem.W.typeIn K (.ref a_InvalidNumber) = some (.type "type"))
    (hC_InvalidNumber : PySem.W.hasDictIn K a_InvalidNumber = true)
    (g_InvalidTable : PySem.W.nsIn K mainGlobals "InvalidTable" = some (some (.ref a_InvalidTable)))
    (xL_InvalidTable : K.lookup a_InvalidTable = some (excClassObj nm_InvalidTable q_InvalidTable a_InvalidTable N_InvalidTable bs_InvalidTable bm_InvalidTable true sn_InvalidTable sub_InvalidTable ab_InvalidTable col_InvalidTable dd_InvalidTable m0_InvalidTable m1_InvalidTable m2_InvalidTable m3_InvalidTable m5_InvalidTable "ValueError.__new__"))
    (ve_InvalidTable : PySem.HandSPX.refsVE bm_InvalidTable = true)
    (sa_InvalidTable : PySem.W.findIn K (.ref a_InvalidTable) "__setattr__" = some (some (.builtin "object.__setattr__")))
    (ga_InvalidTable : PySem.W.findIn K (.ref a_InvalidTable) "__getattribute__" = some (some (.builtin "BaseException.__getattribute__")))
    (gg_InvalidTable : PySem.W.findIn K (.ref a_InvalidTable) "__getattr__" = some none)
    (no_InvalidTable : PySem.W.findIn K (.ref a_InvalidTable) "value" = some none)
    (in_InvalidTable : PySem.W.findIn K (.ref a_InvalidTable) "__init__" = some (some (.ref f_InvalidTable_init)))
    (ti_InvalidTable : PySem.W.typeIn K (.ref f_InvalidTable_init) = some (.type "function"))
    (l_InvalidTable_init : K.lookup f_InvalidTable_init = some ⟨oc_InvalidTable_init, od_InvalidTable_init, .func (PySem.W.fnOf "__init__" "InvalidTable.__init__" (defArgs s_InvalidTable_init) (defBody s_InvalidTable_init) (defScope s_InvalidTable_init) .none kV_InvalidTable_init dc_InvalidTable_init pm_InvalidTable_init an_InvalidTable_init cd_InvalidTable_init ct_InvalidTable_init), sl_InvalidTable_init⟩)
    (c_InvalidTable_init : PySem.W.codeIn K cd_InvalidTable_init "InvalidTable.__init__" = true)
    (k_InvalidTable_init : PySem.W.keepIn K (.ref f_InvalidTable_init) = true)
    (kC_InvalidTable : PySem.W.keepIn K (.ref a_InvalidTable) = true)
    (eC_InvalidTable : PySem.W.subIn K (.ref a_InvalidTable) (.type "BaseException") = some true)
    (tC_InvalidTable : PySem.W.typeIn K (.ref a_InvalidTable) = some (.type "type"))
    (hC_InvalidTable : PySem.W.hasDictIn K a_InvalidTable = true)
    (g_InvalidRow : PySem.W.nsIn K mainGlobals "InvalidRow" = some (some (.ref a_InvalidRow)))
    (xL_InvalidRow : K.lookup a_InvalidRow = some (excClassObj nm_InvalidRow q_InvalidRow a_InvalidRow N_InvalidRow bs_InvalidRow bm_InvalidRow true sn_InvalidRow sub_InvalidRow ab_InvalidRow col_InvalidRow dd_InvalidRow m0_InvalidRow m1_InvalidRow m2_InvalidRow m3_InvalidRow m5_InvalidRow "ValueError.__new__"))
    (ve_InvalidRow : PySem.HandSPX.refsVE bm_InvalidRow = true)
    (sa_InvalidRow : PySem.W.findIn K (.ref a_InvalidRow) "__setattr__" = some (some (.builtin "object.__setattr__")))
    (ga_InvalidRow : PySem.W.findIn K (.ref a_InvalidRow) "__getattribute__" = some (some (.builtin "BaseException.__getattribute__")))
    (gg_InvalidRow : PySem.W.findIn K (.ref a_InvalidRow) "__getattr__" = some none)
    (no_InvalidRow : PySem.W.findIn K (.ref a_InvalidRow) "value" = some none)
    (in_InvalidRow : PySem.W.findIn K (.ref a_InvalidRow) "__init__" = some (some (.ref f_InvalidRow_init)))
    (ti_InvalidRow : PySem.W.typeIn K (.ref f_InvalidRow_init) = some (.type "function"))
    (l_InvalidRow_init : K.lookup f_InvalidRow_init = some ⟨oc_InvalidRow_init, od_InvalidRow_init, .func (PySem.W.fnOf "__init__" "InvalidRow.__init__" (defArgs s_InvalidRow_init) (defBody s_InvalidRow_init) (defScope s_InvalidRow_init) .none kV_InvalidRow_init dc_InvalidRow_init pm_InvalidRow_init an_InvalidRow_init cd_InvalidRow_init ct_InvalidRow_init), sl_InvalidRow_init⟩)
    (c_InvalidRow_init : PySem.W.codeIn K cd_InvalidRow_init "InvalidRow.__init__" = true)
    (k_InvalidRow_init : PySem.W.keepIn K (.ref f_InvalidRow_init) = true)
    (kC_InvalidRow : PySem.W.keepIn K (.ref a_InvalidRow) = true)
    (eC_InvalidRow : PySem.W.subIn K (.ref a_InvalidRow) (.type "BaseException") = some true)
    (tC_InvalidRow : PySem.W.typeIn K (.ref a_InvalidRow) = some (.type "type"))
    (hC_InvalidRow : PySem.W.hasDictIn K a_InvalidRow = true)
    (k_MOST_STATES_g : PySem.W.nsIn K mainGlobals "MOST_STATES" = some (some (.int 12 t_MOST_STATES)))
    (sub_InvalidNumber_InvalidNumber : PySem.W.subIn K (.ref a_InvalidNumber) (.ref a_InvalidNumber) = some true)
    (sub_InvalidTable_InvalidNumber : PySem.W.subIn K (.ref a_InvalidTable) (.ref a_InvalidNumber) = some false)
    (sub_InvalidRow_InvalidNumber : PySem.W.subIn K (.ref a_InvalidRow) (.ref a_InvalidNumber) = some false)
    (sub_InvalidNumber_InvalidRow : PySem.W.subIn K (.ref a_InvalidNumber) (.ref a_InvalidRow) = some false)
    (sub_InvalidTable_InvalidRow : PySem.W.subIn K (.ref a_InvalidTable) (.ref a_InvalidRow) = some false)
    (sub_InvalidRow_InvalidRow : PySem.W.subIn K (.ref a_InvalidRow) (.ref a_InvalidRow) = some true)
    (sub_InvalidNumber_InvalidTable : PySem.W.subIn K (.ref a_InvalidNumber) (.ref a_InvalidTable) = some false)
    (sub_InvalidTable_InvalidTable : PySem.W.subIn K (.ref a_InvalidTable) (.ref a_InvalidTable) = some true)
    (sub_InvalidRow_InvalidTable : PySem.W.subIn K (.ref a_InvalidRow) (.ref a_InvalidTable) = some false)
    (n_abs_g : PySem.W.nsIn K mainGlobals "abs" = some none)
    (n_all_g : PySem.W.nsIn K mainGlobals "all" = some none)
    (n_bool_g : PySem.W.nsIn K mainGlobals "bool" = some none)
    (n_int_g : PySem.W.nsIn K mainGlobals "int" = some none)
    (n_isinstance_g : PySem.W.nsIn K mainGlobals "isinstance" = some none)
    (n_len_g : PySem.W.nsIn K mainGlobals "len" = some none)
    (n_list_g : PySem.W.nsIn K mainGlobals "list" = some none)
    (n_max_g : PySem.W.nsIn K mainGlobals "max" = some none)
    (n_range_g : PySem.W.nsIn K mainGlobals "range" = some none)
    (n_str_g : PySem.W.nsIn K mainGlobals "str" = some none)
    (n_tuple_g : PySem.W.nsIn K mainGlobals "tuple" = some none)
    : ∃ fd : FuncData, (∀ (s : Shared) (u : Value), BindsTo s fd ⟨[u], []⟩ [("script", u)]) ∧ ∀ base : Heap, K.In base → base.Ns mainGlobals mg → FnOk P w K mg base (L2.CX P w) 9 fa fd ["script"] (spOf ⟨K, mg, none⟩ 1 M_law) := by
  have e := hfa.symm.trans (PySem.W.mg_of X G a_law_g)
  cases e
  have F_is_integer := fun_mk (st := s_is_integer) l_is_integer c_is_integer k_is_integer
  have F_is_within := fun_mk (st := s_is_within) l_is_within c_is_within k_is_within
  have F_is_tuple := fun_mk (st := s_is_tuple) l_is_tuple c_is_tuple k_is_tuple
  have F_are_within := fun_mk (st := s_are_within) l_are_within c_are_within k_are_within
  have F_is_row := fun_mk (st := s_is_row) l_is_row c_is_row k_is_row
  have F_is_table := fun_mk (st := s_is_table) l_is_table c_is_table k_is_table
  have F_Machine_init := fun_mk (st := s_Machine_init) l_Machine_init c_Machine_init k_Machine_init
  have F_Machine_len := fun_mk (st := s_Machine_len) l_Machine_len c_Machine_len k_Machine_len
  have F_Machine_eq := fun_mk (st := s_Machine_eq) l_Machine_eq c_Machine_eq k_Machine_eq
  have F_Machine_after := fun_mk (st := s_Machine_after) l_Machine_after c_Machine_after k_Machine_after
  have F_law_box := fun_mk (st := s_law_box) l_law_box c_law_box k_law_box
  have F_law_take := fun_mk (st := s_law_take) l_law_take c_law_take k_law_take
  have F_law_pick := fun_mk (st := s_law_pick) l_law_pick c_law_pick k_law_pick
  have F_law_whole := fun_mk (st := s_law_whole) l_law_whole c_law_whole k_law_whole
  have F_law_is_due := fun_mk (st := s_law_is_due) l_law_is_due c_law_is_due k_law_is_due
  have F_law_spoilt := fun_mk (st := s_law_spoilt) l_law_spoilt c_law_spoilt k_law_spoilt
  have F_law_table := fun_mk (st := s_law_table) l_law_table c_law_table k_law_table
  have F_law_after := fun_mk (st := s_law_after) l_law_after c_law_after k_law_after
  have F_law_is_table := fun_mk (st := s_law_is_table) l_law_is_table c_law_is_table k_law_is_table
  have F_law_told := fun_mk (st := s_law_told) l_law_told c_law_told k_law_told
  have F_law := fun_mk (st := s_law) l_law c_law k_law
  have F_InvalidNumber_init := fun_mk (st := s_InvalidNumber_init) l_InvalidNumber_init c_InvalidNumber_init k_InvalidNumber_init
  have F_InvalidTable_init := fun_mk (st := s_InvalidTable_init) l_InvalidTable_init c_InvalidTable_init k_InvalidTable_init
  have F_InvalidRow_init := fun_mk (st := s_InvalidRow_init) l_InvalidRow_init c_InvalidRow_init k_InvalidRow_init
  let T : Tx K mg := {
    a_Machine := a_Machine
    m_Machine := PySem.W.mg_of X G g_Machine
    i_Machine := ⟨⟨pg_Machine, hd_Machine, po_Machine, sa_Machine⟩, ha_Machine, hn_Machine, ht_Machine, hm_Machine⟩
    self_Machine := kit_self
    not_Machine := fun T hT => by
      simp only [List.mem_cons, List.not_mem_nil, or_false] at hT
      rcases hT with rfl | rfl | rfl | rfl | rfl | rfl
      · exact kit_own ic_Machine ty_Machine sNoneType_Machine
      · exact kit_own ic_Machine ty_Machine sbool_Machine
      · exact kit_own ic_Machine ty_Machine sint_Machine
      · exact kit_own ic_Machine ty_Machine sstr_Machine
      · exact kit_own ic_Machine ty_Machine stuple_Machine
      · exact kit_own ic_Machine ty_Machine slist_Machine
    tup_Machine := stuple_Machine
    no_Machine_letters := no_Machine_letters
    no_Machine_table := no_Machine_table
    f_is_integer := f_is_integer
    fd_is_integer := _
    F_is_integer := F_is_integer
    b_is_integer := F_is_integer.binds (ps := ["value"]) fun _ _ _ _ _ _ us hl => match us, hl with | [_], _ => rfl
    m_is_integer := PySem.W.mg_of X G a_is_integer_g
    f_is_within := f_is_within
    fd_is_within := _
    F_is_within := F_is_within
    b_is_within := F_is_within.binds (ps := ["value", "low", "high"]) fun _ _ _ _ _ _ us hl => match us, hl with | [_, _, _], _ => rfl
    m_is_within := PySem.W.mg_of X G a_is_within_g
    f_is_tuple := f_is_tuple
    fd_is_tuple := _
    F_is_tuple := F_is_tuple
    b_is_tuple := F_is_tuple.binds (ps := ["value", "least", "most"]) fun _ _ _ _ _ _ us hl => match us, hl with | [_, _, _], _ => rfl
    m_is_tuple := PySem.W.mg_of X G a_is_tuple_g
    f_are_within := f_are_within
    fd_are_within := _
    F_are_within := F_are_within
    b_are_within := F_are_within.binds (ps := ["value", "many", "low", "high"]) fun _ _ _ _ _ _ us hl => match us, hl with | [_, _, _, _], _ => rfl
    m_are_within := PySem.W.mg_of X G a_are_within_g
    f_is_row := f_is_row
    fd_is_row := _
    F_is_row := F_is_row
    b_is_row := F_is_row.binds (ps := ["value", "letters"]) fun _ _ _ _ _ _ us hl => match us, hl with | [_, _], _ => rfl
    m_is_row := PySem.W.mg_of X G a_is_row_g
    f_is_table := f_is_table
    fd_is_table := _
    F_is_table := F_is_table
    b_is_table := F_is_table.binds (ps := ["value", "letters"]) fun _ _ _ _ _ _ us hl => match us, hl with | [_, _], _ => rfl
    m_is_table := PySem.W.mg_of X G a_is_table_g
    f_Machine_init := f_Machine_init
    fd_Machine_init := _
    F_Machine_init := F_Machine_init
    b_Machine_init := F_Machine_init.binds (ps := ["self", "letters", "table"]) fun _ _ _ _ _ _ us hl => match us, hl with | [_, _, _], _ => rfl
    F_Machine_init_fn := i_Machine_init_f
    mk_Machine := ⟨mk_Machine, a_Machine_init_g, i_Machine_init_f, kc_Machine⟩
    f_Machine_len := f_Machine_len
    fd_Machine_len := _
    F_Machine_len := F_Machine_len
    b_Machine_len := F_Machine_len.binds (ps := ["self"]) fun _ _ _ _ _ _ us hl => match us, hl with | [_], _ => rfl
    F_Machine_len_fn := i_Machine_len_f
    len_Machine := a_Machine_len_g
    f_Machine_eq := f_Machine_eq
    fd_Machine_eq := _
    F_Machine_eq := F_Machine_eq
    b_Machine_eq := F_Machine_eq.binds (ps := ["self", "other"]) fun _ _ _ _ _ _ us hl => match us, hl with | [_, _], _ => rfl
    F_Machine_eq_fn := i_Machine_eq_f
    eq_Machine := a_Machine_eq_g
    f_Machine_after := f_Machine_after
    fd_Machine_after := _
    F_Machine_after := F_Machine_after
    b_Machine_after := F_Machine_after.binds (ps := ["self", "row"]) fun _ _ _ _ _ _ us hl => match us, hl with | [_, _], _ => rfl
    F_Machine_after_fn := i_Machine_after_f
    mt_Machine_after := ⟨a_Machine_after_g, i_Machine_after_f, k_Machine_after⟩
    f_law_box := f_law_box
    fd_law_box := _
    F_law_box := F_law_box
    b_law_box := F_law_box.binds (ps := ["script", "k"]) fun _ _ _ _ _ _ us hl => match us, hl with | [_, _], _ => rfl
    m_law_box := PySem.W.mg_of X G a_law_box_g
    f_law_take := f_law_take
    fd_law_take := _
    F_law_take := F_law_take
    b_law_take := F_law_take.binds (ps := ["box", "many"]) fun _ _ _ _ _ _ us hl => match us, hl with | [_, _], _ => rfl
    m_law_take := PySem.W.mg_of X G a_law_take_g
    f_law_pick := f_law_pick
    fd_law_pick := _
    F_law_pick := F_law_pick
    b_law_pick := F_law_pick.binds (ps := ["box", "some"]) fun _ _ _ _ _ _ us hl => match us, hl with | [_, _], _ => rfl
    m_law_pick := PySem.W.mg_of X G a_law_pick_g
    f_law_whole := f_law_whole
    fd_law_whole := _
    F_law_whole := F_law_whole
    b_law_whole := F_law_whole.binds (ps := ["value"]) fun _ _ _ _ _ _ us hl => match us, hl with | [_], _ => rfl
    m_law_whole := PySem.W.mg_of X G a_law_whole_g
    f_law_is_due := f_law_is_due
    fd_law_is_due := _
    F_law_is_due := F_law_is_due
    b_law_is_due := F_law_is_due.binds (ps := ["told", "due"]) fun _ _ _ _ _ _ us hl => match us, hl with | [_, _], _ => rfl
    m_law_is_due := PySem.W.mg_of X G a_law_is_due_g
    f_law_spoilt := f_law_spoilt
    fd_law_spoilt := _
    F_law_spoilt := F_law_spoilt
    b_law_spoilt := F_law_spoilt.binds (ps := ["box", "value", "deep"]) fun _ _ _ _ _ _ us hl => match us, hl with | [_, _, _], _ => rfl
    m_law_spoilt := PySem.W.mg_of X G a_law_spoilt_g
    f_law_table := f_law_table
    fd_law_table := _
    F_law_table := F_law_table
    b_law_table := F_law_table.binds (ps := ["box", "letters", "most"]) fun _ _ _ _ _ _ us hl => match us, hl with | [_, _, _], _ => rfl
    m_law_table := PySem.W.mg_of X G a_law_table_g
    f_law_after := f_law_after
    fd_law_after := _
    F_law_after := F_law_after
    b_law_after := F_law_after.binds (ps := ["table", "row"]) fun _ _ _ _ _ _ us hl => match us, hl with | [_, _], _ => rfl
    m_law_after := PySem.W.mg_of X G a_law_after_g
    f_law_is_table := f_law_is_table
    fd_law_is_table := _
    F_law_is_table := F_law_is_table
    b_law_is_table := F_law_is_table.binds (ps := ["value", "letters"]) fun _ _ _ _ _ _ us hl => match us, hl with | [_, _], _ => rfl
    m_law_is_table := PySem.W.mg_of X G a_law_is_table_g
    f_law_told := f_law_told
    fd_law_told := _
    F_law_told := F_law_told
    b_law_told := F_law_told.binds (ps := ["letters", "table"]) fun _ _ _ _ _ _ us hl => match us, hl with | [_, _], _ => rfl
    m_law_told := PySem.W.mg_of X G a_law_told_g
    f_law := fa
    fd_law := _
    F_law := F_law
    b_law := F_law.binds (ps := ["script"]) fun _ _ _ _ _ _ us hl => match us, hl with | [_], _ => rfl
    m_law := PySem.W.mg_of X G a_law_g
    a_InvalidNumber := a_InvalidNumber
    m_InvalidNumber := PySem.W.mg_of X G g_InvalidNumber
    f_InvalidNumber_init := f_InvalidNumber_init
    fd_InvalidNumber_init := _
    F_InvalidNumber_init := F_InvalidNumber_init
    b_InvalidNumber_init := F_InvalidNumber_init.binds (ps := ["self", "value"]) fun _ _ _ _ _ _ us hl => match us, hl with | [_, _], _ => rfl
    o_InvalidNumber := ⟨⟨_, _, _, _, _, _, _, _, _, _, _, _, _, _, _, xL_InvalidNumber, ve_InvalidNumber⟩, sa_InvalidNumber, eC_InvalidNumber, tC_InvalidNumber, kC_InvalidNumber⟩
    in_InvalidNumber := in_InvalidNumber
    ti_InvalidNumber := ti_InvalidNumber
    x_InvalidNumber_no := no_InvalidNumber
    x_InvalidNumber_xf := ⟨ga_InvalidNumber, gg_InvalidNumber, eC_InvalidNumber, hC_InvalidNumber⟩
    a_InvalidTable := a_InvalidTable
    m_InvalidTable := PySem.W.mg_of X G g_InvalidTable
    f_InvalidTable_init := f_InvalidTable_init
    fd_InvalidTable_init := _
    F_InvalidTable_init := F_InvalidTable_init
    b_InvalidTable_init := F_InvalidTable_init.binds (ps := ["self", "value"]) fun _ _ _ _ _ _ us hl => match us, hl with | [_, _], _ => rfl
    o_InvalidTable := ⟨⟨_, _, _, _, _, _, _, _, _, _, _, _, _, _, _, xL_InvalidTable, ve_InvalidTable⟩, sa_InvalidTable, eC_InvalidTable, tC_InvalidTable, kC_InvalidTable⟩
    in_InvalidTable := in_InvalidTable
    ti_InvalidTable := ti_InvalidTable
    x_InvalidTable_no := no_InvalidTable
    x_InvalidTable_xf := ⟨ga_InvalidTable, gg_InvalidTable, eC_InvalidTable, hC_InvalidTable⟩
    a_InvalidRow := a_InvalidRow
    m_InvalidRow := PySem.W.mg_of X G g_InvalidRow
    f_InvalidRow_init := f_InvalidRow_init
    fd_InvalidRow_init := _
    F_InvalidRow_init := F_InvalidRow_init
    b_InvalidRow_init := F_InvalidRow_init.binds (ps := ["self", "value"]) fun _ _ _ _ _ _ us hl => match us, hl with | [_, _], _ => rfl
    o_InvalidRow := ⟨⟨_, _, _, _, _, _, _, _, _, _, _, _, _, _, _, xL_InvalidRow, ve_InvalidRow⟩, sa_InvalidRow, eC_InvalidRow, tC_InvalidRow, kC_InvalidRow⟩
    in_InvalidRow := in_InvalidRow
    ti_InvalidRow := ti_InvalidRow
    x_InvalidRow_no := no_InvalidRow
    x_InvalidRow_xf := ⟨ga_InvalidRow, gg_InvalidRow, eC_InvalidRow, hC_InvalidRow⟩
    k_MOST_STATES_v := _
    k_MOST_STATES := PySem.W.mg_of X G k_MOST_STATES_g
    k_MOST_STATES_i := ⟨_, rfl⟩
    e_InvalidNumber_InvalidNumber := PySem.W.exm_ref eC_InvalidNumber hC_InvalidNumber tC_InvalidNumber sub_InvalidNumber_InvalidNumber
    e_InvalidTable_InvalidNumber := PySem.W.exm_ref eC_InvalidNumber hC_InvalidNumber tC_InvalidNumber sub_InvalidTable_InvalidNumber
    e_InvalidRow_InvalidNumber := PySem.W.exm_ref eC_InvalidNumber hC_InvalidNumber tC_InvalidNumber sub_InvalidRow_InvalidNumber
    e_InvalidNumber_InvalidRow := PySem.W.exm_ref eC_InvalidRow hC_InvalidRow tC_InvalidRow sub_InvalidNumber_InvalidRow
    e_InvalidTable_InvalidRow := PySem.W.exm_ref eC_InvalidRow hC_InvalidRow tC_InvalidRow sub_InvalidTable_InvalidRow
    e_InvalidRow_InvalidRow := PySem.W.exm_ref eC_InvalidRow hC_InvalidRow tC_InvalidRow sub_InvalidRow_InvalidRow
    e_InvalidNumber_InvalidTable := PySem.W.exm_ref eC_InvalidTable hC_InvalidTable tC_InvalidTable sub_InvalidNumber_InvalidTable
    e_InvalidTable_InvalidTable := PySem.W.exm_ref eC_InvalidTable hC_InvalidTable tC_InvalidTable sub_InvalidTable_InvalidTable
    e_InvalidRow_InvalidTable := PySem.W.exm_ref eC_InvalidTable hC_InvalidTable tC_InvalidTable sub_InvalidRow_InvalidTable
    n_abs := PySem.W.mg_none_of X G n_abs_g
    n_all := PySem.W.mg_none_of X G n_all_g
    n_bool := PySem.W.mg_none_of X G n_bool_g
    n_int := PySem.W.mg_none_of X G n_int_g
    n_isinstance := PySem.W.mg_none_of X G n_isinstance_g
    n_len := PySem.W.mg_none_of X G n_len_g
    n_list := PySem.W.mg_none_of X G n_list_g
    n_max := PySem.W.mg_none_of X G n_max_g
    n_range := PySem.W.mg_none_of X G n_range_g
    n_str := PySem.W.mg_none_of X G n_str_g
    n_tuple := PySem.W.mg_none_of X G n_tuple_g }
  exact ⟨PySem.W.fnOf "law" "law" (defArgs s_law) (defBody s_law) (defScope s_law) .none kV_law dc_law pm_law an_law cd_law ct_law, fun s u => .of_eq rfl, fun base _ _ => ok_law T⟩
end K02
open PySem PySem.W PyProof.Rows in
set_option maxRecDepth 100000 in
set_option maxHeartbeats 0 in
theorem PySem.Challenge.cw_dutyweeks_k02_machines_holds : PySem.Challenge.rw_dutyweeks_k02_machines.Holds := by
  w_on; o_law; k_head; (case hw => w_witness2)
  k_fill
  refine K02.walk (l := PySem.Challenge.rw_dutyweeks_k02_machines) rfl rfl (fun w h Y => PySem.W.kIn_of Y) ?F
  case F =>
    intro w mg fa h KX G hmg
    refine' K02.all_mk KX G hmg ?g_Machine ?pg_Machine ?hd_Machine ?po_Machine ?sa_Machine ?mk_Machine ?kc_Machine ?ha_Machine ?hn_Machine ?ht_Machine ?hm_Machine ?ic_Machine ?ty_Machine ?sNoneType_Machine ?sbool_Machine ?sint_Machine ?sstr_Machine ?stuple_Machine ?slist_Machine ?no_Machine_letters ?no_Machine_table ?a_is_integer_g ?l_is_integer ?c_is_integer ?k_is_integer ?a_is_within_g ?l_is_within ?c_is_within ?k_is_within ?a_is_tuple_g ?l_is_tuple ?c_is_tuple ?k_is_tuple ?a_are_within_g ?l_are_within ?c_are_within ?k_are_within ?a_is_row_g ?l_is_row ?c_is_row ?k_is_row ?a_is_table_g ?l_is_table ?c_is_table ?k_is_table ?a_Machine_init_g ?i_Machine_init_f ?l_Machine_init ?c_Machine_init ?k_Machine_init ?a_Machine_len_g ?i_Machine_len_f ?l_Machine_len ?c_Machine_len ?k_Machine_len ?a_Machine_eq_g ?i_Machine_eq_f ?l_Machine_eq ?c_Machine_eq ?k_Machine_eq ?a_Machine_after_g ?i_Machine_after_f ?l_Machine_after ?c_Machine_after ?k_Machine_after ?a_law_box_g ?l_law_box ?c_law_box ?k_law_box ?a_law_take_g ?l_law_take ?c_law_take ?k_law_take ?a_law_pick_g ?l_law_pick ?c_law_pick ?k_law_pick ?a_law_whole_g ?l_law_whole ?c_law_whole ?k_law_whole ?a_law_is_due_g ?l_law_is_due ?c_law_is_due ?k_law_is_due ?a_law_spoilt_g ?l_law_spoilt ?c_law_spoilt ?k_law_spoilt ?a_law_table_g ?l_law_table ?c_law_table ?k_law_table ?a_law_after_g ?l_law_after ?c_law_after ?k_law_after ?a_law_is_table_g ?l_law_is_table ?c_law_is_table ?k_law_is_table ?a_law_told_g ?l_law_told ?c_law_told ?k_law_told ?a_law_g ?l_law ?c_law ?k_law ?g_InvalidNumber ?xL_InvalidNumber ?ve_InvalidNumber ?sa_InvalidNumber ?ga_InvalidNumber ?gg_InvalidNumber ?no_InvalidNumber ?in_InvalidNumber ?ti_InvalidNumber ?l_InvalidNumber_init ?c_InvalidNumber_init ?k_InvalidNumber_init ?kC_InvalidNumber ?eC_InvalidNumber ?tC_InvalidNumber ?hC_InvalidNumber ?g_InvalidTable ?xL_InvalidTable ?ve_InvalidTable ?sa_InvalidTable ?ga_InvalidTable ?gg_InvalidTable ?no_InvalidTable ?in_InvalidTable ?ti_InvalidTable ?l_InvalidTable_init ?c_InvalidTable_init ?k_InvalidTable_init ?kC_InvalidTable ?eC_InvalidTable ?tC_InvalidTable ?hC_InvalidTable ?g_InvalidRow ?xL_InvalidRow ?ve_InvalidRow ?sa_InvalidRow ?ga_InvalidRow ?gg_InvalidRow ?no_InvalidRow ?in_InvalidRow ?ti_InvalidRow ?l_InvalidRow_init ?c_InvalidRow_init ?k_InvalidRow_init ?kC_InvalidRow ?eC_InvalidRow ?tC_InvalidRow ?hC_InvalidRow ?k_MOST_STATES_g ?sub_InvalidNumber_InvalidNumber ?sub_InvalidTable_InvalidNumber ?sub_InvalidRow_InvalidNumber ?sub_InvalidNumber_InvalidRow ?sub_InvalidTable_InvalidRow ?sub_InvalidRow_InvalidRow ?sub_InvalidNumber_InvalidTable ?sub_InvalidTable_InvalidTable ?sub_InvalidRow_InvalidTable ?n_abs_g ?n_all_g ?n_bool_g ?n_int_g ?n_isinstance_g ?n_len_g ?n_list_g ?n_max_g ?n_range_g ?n_str_g ?n_tuple_g
    (case g_Machine => first | k_is | rfl | decide +kernel)
    (case pg_Machine => first | k_is | rfl | decide +kernel)
    (case hd_Machine => first | k_is | rfl | decide +kernel)
    (case po_Machine => first | k_is | rfl | decide +kernel)
    (case sa_Machine => first | k_is | rfl | decide +kernel)
    (case mk_Machine => first | k_is | rfl | decide +kernel)
    (case kc_Machine => first | k_is | rfl | decide +kernel)
    (case ha_Machine => first | k_is | rfl | decide +kernel)
    (case hn_Machine => first | k_is | rfl | decide +kernel)
    (case ht_Machine => first | k_is | rfl | decide +kernel)
    (case hm_Machine => first | k_is | rfl | decide +kernel)
    (case ic_Machine => first | k_is | rfl | decide +kernel)
    (case ty_Machine => first | k_is | rfl | decide +kernel)
    (case sNoneType_Machine => first | k_is | rfl | decide +kernel)
    (case sbool_Machine => first | k_is | rfl | decide +kernel)
    (case sint_Machine => first | k_is | rfl | decide +kernel)
    (case sstr_Machine => first | k_is | rfl | decide +kernel)
    (case stuple_Machine => first | k_is | rfl | decide +kernel)
    (case slist_Machine => first | k_is | rfl | decide +kernel)
    (case no_Machine_letters => first | k_is | rfl | decide +kernel)
    (case no_Machine_table => first | k_is | rfl | decide +kernel)
    (case a_is_integer_g => first | k_is | rfl | decide +kernel)
    (case l_is_integer => first | k_is | rfl | decide +kernel)
    (case c_is_integer => first | k_is | rfl | decide +kernel)
    (case k_is_integer => first | k_is | rfl | decide +kernel)
    (case a_is_within_g => first | k_is | rfl | decide +kernel)
    (case l_is_within => first | k_is | rfl | decide +kernel)
    (case c_is_within => first | k_is | rfl | decide +kernel)
    (case k_is_within => first | k_is | rfl | decide +kernel)
    (case a_is_tuple_g => first | k_is | rfl | decide +kernel)
    (case l_is_tuple => first | k_is | rfl | decide +kernel)
    (case c_is_tuple => first | k_is | rfl | decide +kernel)
    (case k_is_tuple => first | k_is | rfl | decide +kernel)
    (case a_are_within_g => first | k_is | rfl | decide +kernel)
    (case l_are_within => first | k_is | rfl | decide +kernel)
    (case c_are_within => first | k_is | rfl | decide +kernel)
    (case k_are_within => first | k_is | rfl | decide +kernel)
    (case a_is_row_g => first | k_is | rfl | decide +kernel)
    (case l_is_row => first | k_is | rfl | decide +kernel)
    (case c_is_row => first | k_is | rfl | decide +kernel)
    (case k_is_row => first | k_is | rfl | decide +kernel)
    (case a_is_table_g => first | k_is | rfl | decide +kernel)
    (case l_is_table => first | k_is | rfl | decide +kernel)
    (case c_is_table => first | k_is | rfl | decide +kernel)
    (case k_is_table => first | k_is | rfl | decide +kernel)
    (case a_Machine_init_g => first | k_is | rfl | decide +kernel)
    (case i_Machine_init_f => first | k_is | rfl | decide +kernel)
    (case l_Machine_init => first | k_is | rfl | decide +kernel)
    (case c_Machine_init => first | k_is | rfl | decide +kernel)
    (case k_Machine_init => first | k_is | rfl | decide +kernel)
    (case a_Machine_len_g => first | k_is | rfl | decide +kernel)
    (case i_Machine_len_f => first | k_is | rfl | decide +kernel)
    (case l_Machine_len => first | k_is | rfl | decide +kernel)
    (case c_Machine_len => first | k_is | rfl | decide +kernel)
    (case k_Machine_len => first | k_is | rfl | decide +kernel)
    (case a_Machine_eq_g => first | k_is | rfl | decide +kernel)
    (case i_Machine_eq_f => first | k_is | rfl | decide +kernel)
    (case l_Machine_eq => first | k_is | rfl | decide +kernel)
    (case c_Machine_eq => first | k_is | rfl | decide +kernel)
    (case k_Machine_eq => first | k_is | rfl | decide +kernel)
    (case a_Machine_after_g => first | k_is | rfl | decide +kernel)
    (case i_Machine_after_f => first | k_is | rfl | decide +kernel)
    (case l_Machine_after => first | k_is | rfl | decide +kernel)
    (case c_Machine_after => first | k_is | rfl | decide +kernel)
    (case k_Machine_after => first | k_is | rfl | decide +kernel)
    (case a_law_box_g => first | k_is | rfl | decide +kernel)
    (case l_law_box => first | k_is | rfl | decide +kernel)
    (case c_law_box => first | k_is | rfl | decide +kernel)
    (case k_law_box => first | k_is | rfl | decide +kernel)
    (case a_law_take_g => first | k_is | rfl | decide +kernel)
    (case l_law_take => first | k_is | rfl | decide +kernel)
    (case c_law_take => first | k_is | rfl | decide +kernel)
    (case k_law_take => first | k_is | rfl | decide +kernel)
    (case a_law_pick_g => first | k_is | rfl | decide +kernel)
    (case l_law_pick => first | k_is | rfl | decide +kernel)
    (case c_law_pick => first | k_is | rfl | decide +kernel)
    (case k_law_pick => first | k_is | rfl | decide +kernel)
    (case a_law_whole_g => first | k_is | rfl | decide +kernel)
    (case l_law_whole => first | k_is | rfl | decide +kernel)
    (case c_law_whole => first | k_is | rfl | decide +kernel)
    (case k_law_whole => first | k_is | rfl | decide +kernel)
    (case a_law_is_due_g => first | k_is | rfl | decide +kernel)
    (case l_law_is_due => first | k_is | rfl | decide +kernel)
    (case c_law_is_due => first | k_is | rfl | decide +kernel)
    (case k_law_is_due => first | k_is | rfl | decide +kernel)
    (case a_law_spoilt_g => first | k_is | rfl | decide +kernel)
    (case l_law_spoilt => first | k_is | rfl | decide +kernel)
    (case c_law_spoilt => first | k_is | rfl | decide +kernel)
    (case k_law_spoilt => first | k_is | rfl | decide +kernel)
    (case a_law_table_g => first | k_is | rfl | decide +kernel)
    (case l_law_table => first | k_is | rfl | decide +kernel)
    (case c_law_table => first | k_is | rfl | decide +kernel)
    (case k_law_table => first | k_is | rfl | decide +kernel)
    (case a_law_after_g => first | k_is | rfl | decide +kernel)
    (case l_law_after => first | k_is | rfl | decide +kernel)
    (case c_law_after => first | k_is | rfl | decide +kernel)
    (case k_law_after => first | k_is | rfl | decide +kernel)
    (case a_law_is_table_g => first | k_is | rfl | decide +kernel)
    (case l_law_is_table => first | k_is | rfl | decide +kernel)
    (case c_law_is_table => first | k_is | rfl | decide +kernel)
    (case k_law_is_table => first | k_is | rfl | decide +kernel)
    (case a_law_told_g => first | k_is | rfl | decide +kernel)
    (case l_law_told => first | k_is | rfl | decide +kernel)
    (case c_law_told => first | k_is | rfl | decide +kernel)
    (case k_law_told => first | k_is | rfl | decide +kernel)
    (case a_law_g => first | k_is | rfl | decide +kernel)
    (case l_law => first | k_is | rfl | decide +kernel)
    (case c_law => first | k_is | rfl | decide +kernel)
    (case k_law => first | k_is | rfl | decide +kernel)
    (case g_InvalidNumber => first | k_is | rfl | decide +kernel)
    (case xL_InvalidNumber => first | k_is | rfl | decide +kernel)
    (case ve_InvalidNumber => first | k_is | rfl | decide +kernel)
    (case sa_InvalidNumber => first | k_is | rfl | decide +kernel)
    (case ga_InvalidNumber => first | k_is | rfl | decide +kernel)
    (case gg_InvalidNumber => first | k_is | rfl | decide +kernel)
    (case no_InvalidNumber => first | k_is | rfl | decide +kernel)
    (case in_InvalidNumber => first | k_is | rfl | decide +kernel)
    (case ti_InvalidNumber => first | k_is | rfl | decide +kernel)
    (case l_InvalidNumber_init => first | k_is | rfl | decide +kernel)
    (case c_InvalidNumber_init => first | k_is | rfl | decide +kernel)
    (case k_InvalidNumber_init => first | k_is | rfl | decide +kernel)
    (case kC_InvalidNumber => first | k_is | rfl | decide +kernel)
    (case eC_InvalidNumber => first | k_is | rfl | decide +kernel)
    (case tC_InvalidNumber => first | k_is | rfl | decide +kernel)
    (case hC_InvalidNumber => first | k_is | rfl | decide +kernel)
    (case g_InvalidTable => first | k_is | rfl | decide +kernel)
    (case xL_InvalidTable => first | k_is | rfl | decide +kernel)
    (case ve_InvalidTable => first | k_is | rfl | decide +kernel)
    (case sa_InvalidTable => first | k_is | rfl | decide +kernel)
    (case ga_InvalidTable => first | k_is | rfl | decide +kernel)
    (case gg_InvalidTable => first | k_is | rfl | decide +kernel)
    (case no_InvalidTable => first | k_is | rfl | decide +kernel)
    (case in_InvalidTable => first | k_is | rfl | decide +kernel)
    (case ti_InvalidTable => first | k_is | rfl | decide +kernel)
    (case l_InvalidTable_init => first | k_is | rfl | decide +kernel)
    (case c_InvalidTable_init => first | k_is | rfl | decide +kernel)
    (case k_InvalidTable_init => first | k_is | rfl | decide +kernel)
    (case kC_InvalidTable => first | k_is | rfl | decide +kernel)
    (case eC_InvalidTable => first | k_is | rfl | decide +kernel)
    (case tC_InvalidTable => first | k_is | rfl | decide +kernel)
    (case hC_InvalidTable => first | k_is | rfl | decide +kernel)
    (case g_InvalidRow => first | k_is | rfl | decide +kernel)
    (case xL_InvalidRow => first | k_is | rfl | decide +kernel)
    (case ve_InvalidRow => first | k_is | rfl | decide +kernel)
    (case sa_InvalidRow => first | k_is | rfl | decide +kernel)
    (case ga_InvalidRow => first | k_is | rfl | decide +kernel)
    (case gg_InvalidRow => first | k_is | rfl | decide +kernel)
    (case no_InvalidRow => first | k_is | rfl | decide +kernel)
    (case in_InvalidRow => first | k_is | rfl | decide +kernel)
    (case ti_InvalidRow => first | k_is | rfl | decide +kernel)
    (case l_InvalidRow_init => first | k_is | rfl | decide +kernel)
    (case c_InvalidRow_init => first | k_is | rfl | decide +kernel)
    (case k_InvalidRow_init => first | k_is | rfl | decide +kernel)
    (case kC_InvalidRow => first | k_is | rfl | decide +kernel)
    (case eC_InvalidRow => first | k_is | rfl | decide +kernel)
    (case tC_InvalidRow => first | k_is | rfl | decide +kernel)
    (case hC_InvalidRow => first | k_is | rfl | decide +kernel)
    (case k_MOST_STATES_g => first | k_is | rfl | decide +kernel)
    (case sub_InvalidNumber_InvalidNumber => first | k_is | rfl | decide +kernel)
    (case sub_InvalidTable_InvalidNumber => first | k_is | rfl | decide +kernel)
    (case sub_InvalidRow_InvalidNumber => first | k_is | rfl | decide +kernel)
    (case sub_InvalidNumber_InvalidRow => first | k_is | rfl | decide +kernel)
    (case sub_InvalidTable_InvalidRow => first | k_is | rfl | decide +kernel)
    (case sub_InvalidRow_InvalidRow => first | k_is | rfl | decide +kernel)
    (case sub_InvalidNumber_InvalidTable => first | k_is | rfl | decide +kernel)
    (case sub_InvalidTable_InvalidTable => first | k_is | rfl | decide +kernel)
    (case sub_InvalidRow_InvalidTable => first | k_is | rfl | decide +kernel)
    (case n_abs_g => first | k_is | rfl | decide +kernel)
    (case n_all_g => first | k_is | rfl | decide +kernel)
    (case n_bool_g => first | k_is | rfl | decide +kernel)
    (case n_int_g => first | k_is | rfl | decide +kernel)
    (case n_isinstance_g => first | k_is | rfl | decide +kernel)
    (case n_len_g => first | k_is | rfl | decide +kernel)
    (case n_list_g => first | k_is | rfl | decide +kernel)
    (case n_max_g => first | k_is | rfl | decide +kernel)
    (case n_range_g => first | k_is | rfl | decide +kernel)
    (case n_str_g => first | k_is | rfl | decide +kernel)
    (case n_tuple_g => first | k_is | rfl | decide +kernel)
