import PyProof.Rows.All
import Wide.All
import OpenK.AllK
import Wide.FinOn
import HandS.ForMost
import HandS.ForExc
import HandS.TryMany
import HandS.IsInst
import HandS.TupAny
import HandS.TupMul
import HandS.Style
import HandS.CallSlots
import HandS.ExcInit
import HandS.ExcField
import HandS.Text
import HandS.ExcIs
import KE.KIsAll
import HandS.Ends
import PySem.Challenge.RW_dutyweeks_k01_errors
set_option Elab.async false
set_option linter.all false
set_option maxRecDepth 100000
set_option maxHeartbeats 4000000
set_option autoImplicit false
/-! Dw: a second layer over the hand layer: values as plain data, a def as a function of data (its mirror), judged rule by rule. -/
namespace Dw
open PySem PySem.Spec L2

/-- plain data -/
inductive D where
  | non | bl (b : Bool) | int (i : Int) | str (s : Str)
  | tup (xs : List D) | lst (xs : List D) | ins (C : Str) (ks : List Str) (xs : List D)
  | exo (C f : Str) (x : D)
/-- what a name may hold: data, or a cell that is changed in place -/
inductive Ar where
  | d (x : D) | cel (i : Nat) | scr (ns : List Int) | exn (ks : List Str) (ds : List D)
/-- what stands in a cell -/
inductive Cl where
  | lst (xs : List D) | ins (C : Str) (ks : List Str) (xs : List D)
inductive R (α : Type) where
  | ok (a : α) (m : List Cl)
  | exc (C : Str) (ks : List Str) (ds : List D) (m : List Cl)
  | stuck
def R.bd {α β : Type} (r : R α) (k : α → List Cl → R β) : R β :=
  match r with
  | .ok a m => k a m
  | .exc C ks ds m => .exc C ks ds m
  | .stuck => .stuck
abbrev Gm := List (Option Ar)
abbrev Mu := List Cl
abbrev ME := Gm → Mu → R Ar
abbrev MT := Gm → Mu → R Bool
abbrev MA := Gm → Mu → R (List Ar)
inductive RS where
  | nx (g : Gm) (m : Mu) | rt (a : Ar) (m : Mu) | bk (g : Gm) (m : Mu) | ct (g : Gm) (m : Mu)
  | exc (C : Str) (ks : List Str) (ds : List D) (g : Gm) (m : Mu) | stuck
abbrev MS := Gm → Mu → RS

structure Ct where
  K : PySem.W.Frag
  mg : Str → Option Value
  /-- the error that an except suite holds, and its own dict -/
  xd : Option (Addr × Addr)

/-! ### heaps -/
def Ex (H H' : Hp) : Prop := ∀ a o, H a = some o → H' a = some o
theorem Ex.refl (H : Hp) : Ex H H := fun _ _ h => h
theorem Ex.trans {H H1 H2 : Hp} (a : Ex H H1) (b : Ex H1 H2) : Ex H H2 := fun x o h => b x o (a x o h)
theorem Ex.new {H : Hp} {p : Addr} {o : HO} (h : H p = none) : Ex H (upd H p o) := fun a u e => by
  rw [upd_ne (ne_of_none e h)]
  exact e
/-- one step: what stands outside the cells stays, new cells are new -/
structure Ch (H : Hp) (ad : List Addr) (H' : Hp) (ad' : List Addr) : Prop where
  keep : ∀ a o, H a = some o → a ∉ ad → H' a = some o
  there : ∀ a, H a ≠ none → H' a ≠ none
  pre : ∃ t, ad' = ad ++ t ∧ ∀ a ∈ t, H a = none
theorem Ch.refl (H : Hp) (ad : List Addr) : Ch H ad H ad := ⟨fun _ _ h _ => h, fun _ h => h, [], by simp, by simp⟩
theorem Ch.ex {H H' : Hp} {ad : List Addr} (e : Ex H H') : Ch H ad H' ad := ⟨fun a o h _ => e a o h, fun a h z => (by
  cases q : H a with
  | none => exact h q
  | some o => (rw [e a o q] at z; cases z)), [], (by simp), (by simp)⟩
theorem Ch.out {H H' : Hp} {ad ad' : List Addr} (c : Ch H ad H' ad') {a : Addr} {o : HO} (h : H a = some o) (n : a ∉ ad) : a ∉ ad' := by
  obtain ⟨t, rfl, ht⟩ := c.pre
  intro hm
  rcases List.mem_append.mp hm with h1 | h1
  · exact n h1
  · rw [ht a h1] at h; cases h
theorem Ch.trans {H H1 H2 : Hp} {ad ad1 ad2 : List Addr} (a : Ch H ad H1 ad1) (b : Ch H1 ad1 H2 ad2) : Ch H ad H2 ad2 := by
  refine ⟨fun x o h n => b.keep x o (a.keep x o h n) (a.out h n), fun x h => b.there x (a.there x h), ?_⟩
  obtain ⟨t, rfl, ht⟩ := a.pre
  obtain ⟨u, rfl, hu⟩ := b.pre
  refine ⟨t ++ u, by simp, fun x hx => ?_⟩
  rcases List.mem_append.mp hx with h1 | h1
  · exact ht x h1
  · cases e : H x with
    | none => rfl
    | some o => exact absurd (hu x h1) (a.there x (by rw [e]; simp))
theorem Ch.new {H : Hp} {ad : List Addr} {p : Addr} {o : HO} (h : H p = none) : Ch H ad (upd H p o) (ad ++ [p]) :=
  ⟨fun a u e _ => Ex.new h a u e, fun a q z => (by
    cases e : H a with
    | none => exact q e
    | some u => (rw [Ex.new h a u e] at z; cases z)), [p], rfl, fun a ha => (by
      rw [List.mem_singleton.mp ha]; exact h)⟩
theorem Ch.put {H : Hp} {ad : List Addr} {p : Addr} {o : HO} (h : p ∈ ad) : Ch H ad (upd H p o) ad :=
  ⟨fun a u e n => (by
    rw [upd_ne (fun z => n (by rw [z]; exact h))]; exact e), fun a q z => (by
    by_cases hp : a = p
    · subst hp; rw [upd_same] at z; cases z
    · rw [upd_ne hp] at z; exact q z), [], (by simp), (by simp)⟩

/-! ### data in the heap -/
/-- a tuple of the written part -/
def KT (K : PySem.W.Frag) (a : Addr) (xs : List V) : Prop :=
  ∃ (o : Obj) (its : Array Value) (n : Nat), K.lookup a = some o ∧ o.cls = .type "tuple" ∧ o.data = .seq its n ∧ its.size ≤ sizeLine ∧ Vals xs its.toList
mutual
inductive Dn (c : Ct) (H : Hp) (ad : List Addr) : V → D → Prop
  | non : Dn c H ad .non .non
  | bl (b : Bool) : Dn c H ad (.bl b) (.bl b)
  | int (i : Int) : Dn c H ad (.int i) (.int i)
  | str (x : Str) : Dn c H ad (.str x) (.str x)
  | tup {a : Addr} {xs : List V} {ds : List D} : a ∉ ad → Rd H a (.tup xs) → Dns c H ad xs ds → Dn c H ad (.ref a) (.tup ds)
  | ktup {a : Addr} {xs : List V} {ds : List D} : KT c.K a xs → Dns c H ad xs ds → Dn c H ad (.ref a) (.tup ds)
  | lst {a : Addr} {xs : List V} {ds : List D} : a ∉ ad → H a = some (.lst xs) → Dns c H ad xs ds → Dn c H ad (.ref a) (.lst ds)
  | ins {a Ca dx : Addr} {fs : List (Str × V)} {C : Str} {ks : List Str} {ds : List D} : a ∉ ad → c.mg C = some (.ref Ca) → H a = some (.ins Ca dx fs) → fs.map (·.1) = ks → Dns c H ad (fs.map (·.2)) ds → Dn c H ad (.ref a) (.ins C ks ds)
  | exo {a Ca dx : Addr} {C f : Str} {v : V} {x : D} : a ∉ ad → dx ∉ ad → c.mg C = some (.ref Ca) → H a = some (L2.exo a Ca (some dx)) → H dx = some (L2.exd dx [(f, v)]) → Dn c H ad v x → Dn c H ad (.ref a) (.exo C f x)
inductive Dns (c : Ct) (H : Hp) (ad : List Addr) : List V → List D → Prop
  | nil : Dns c H ad [] []
  | cons {v : V} {vs : List V} {d : D} {ds : List D} : Dn c H ad v d → Dns c H ad vs ds → Dns c H ad (v :: vs) (d :: ds)
end
theorem Rd.ch {H H' : Hp} {ad ad' : List Addr} (c : Ch H ad H' ad') {a : Addr} {u : HO} (n : a ∉ ad) (h : Rd H a u) : Rd H' a u := by
  rcases h with h | ⟨o, h⟩
  · exact .inl (c.keep a _ h n)
  · exact .inr ⟨o, c.keep a _ h n⟩
theorem Rd.out {H H' : Hp} {ad ad' : List Addr} (c : Ch H ad H' ad') {a : Addr} {u : HO} (n : a ∉ ad) (h : Rd H a u) : a ∉ ad' := by
  rcases h with h | ⟨o, h⟩
  · exact c.out h n
  · exact c.out h n
section
variable {c : Ct} {H H' : Hp} {ad ad' : List Addr}
mutual
theorem Dn.ch (h : Ch H ad H' ad') : ∀ {d : D} {v : V}, Dn c H ad v d → Dn c H' ad' v d
  | _, _, .non => .non
  | _, _, .bl b => .bl b
  | _, _, .int i => .int i
  | _, _, .str x => .str x
  | _, _, .tup n r t => .tup (Rd.out h n r) (Rd.ch h n r) (Dns.ch h t)
  | _, _, .ktup r t => .ktup r (Dns.ch h t)
  | _, _, .lst n r t => .lst (h.out r n) (h.keep _ _ r n) (Dns.ch h t)
  | _, _, .ins n m e k t => .ins (h.out e n) m (h.keep _ _ e n) k (Dns.ch h t)
  | _, _, .exo n n2 m e e2 t => .exo (h.out e n) (h.out e2 n2) m (h.keep _ _ e n) (h.keep _ _ e2 n2) (Dn.ch h t)
theorem Dns.ch (h : Ch H ad H' ad') : ∀ {ds : List D} {vs : List V}, Dns c H ad vs ds → Dns c H' ad' vs ds
  | _, _, .nil => .nil
  | _, _, .cons a b => .cons (Dn.ch h a) (Dns.ch h b)
end
mutual
/-- fewer cells are asked -/
theorem Dn.sub (h : ∀ a ∈ ad', a ∈ ad) : ∀ {d : D} {v : V}, Dn c H ad v d → Dn c H ad' v d
  | _, _, .non => .non
  | _, _, .bl b => .bl b
  | _, _, .int i => .int i
  | _, _, .str x => .str x
  | _, _, .tup n r t => .tup (fun z => n (h _ z)) r (Dns.sub h t)
  | _, _, .ktup r t => .ktup r (Dns.sub h t)
  | _, _, .lst n r t => .lst (fun z => n (h _ z)) r (Dns.sub h t)
  | _, _, .ins n m e k t => .ins (fun z => n (h _ z)) m e k (Dns.sub h t)
  | _, _, .exo n n2 m e e2 t => .exo (fun z => n (h _ z)) (fun z => n2 (h _ z)) m e e2 (Dn.sub h t)
theorem Dns.sub (h : ∀ a ∈ ad', a ∈ ad) : ∀ {ds : List D} {vs : List V}, Dns c H ad vs ds → Dns c H ad' vs ds
  | _, _, .nil => .nil
  | _, _, .cons a b => .cons (Dn.sub h a) (Dns.sub h b)
end
theorem Dns.length : ∀ {vs : List V} {ds : List D}, Dns c H ad vs ds → vs.length = ds.length
  | _, _, .nil => rfl
  | _, _, .cons _ t => congrArg (· + 1) (Dns.length t)
theorem Dns.get : ∀ {vs : List V} {ds : List D} {i : Nat} {d : D}, Dns c H ad vs ds → ds[i]? = some d → ∃ v, vs[i]? = some v ∧ Dn c H ad v d
  | _, _, _, _, .nil, e => by simp at e
  | _, _, 0, _, .cons a _, e => by simp at e; subst e; exact ⟨_, rfl, a⟩
  | _, _, i + 1, d, .cons _ t, e => by
    obtain ⟨v, h1, h2⟩ := Dns.get (i := i) (d := d) t (by simpa using e)
    exact ⟨v, by simpa using h1, h2⟩
theorem Dns.get' : ∀ {vs : List V} {ds : List D} {i : Nat} {v : V}, Dns c H ad vs ds → vs[i]? = some v → ∃ d, ds[i]? = some d ∧ Dn c H ad v d
  | _, _, _, _, .nil, e => by simp at e
  | _, _, 0, _, .cons a _, e => by simp at e; subst e; exact ⟨_, rfl, a⟩
  | _, _, i + 1, v, .cons _ t, e => by
    obtain ⟨d, h1, h2⟩ := Dns.get' (i := i) (v := v) t (by simpa using e)
    exact ⟨d, by simpa using h1, h2⟩
theorem Dns.append : ∀ {vs ws : List V} {ds es : List D}, Dns c H ad vs ds → Dns c H ad ws es → Dns c H ad (vs ++ ws) (ds ++ es)
  | _, _, _, _, .nil, h => h
  | _, _, _, _, .cons a t, h => .cons a (Dns.append t h)
theorem Dns.take : ∀ {vs : List V} {ds : List D} (n : Nat), Dns c H ad vs ds → Dns c H ad (vs.take n) (ds.take n)
  | _, _, 0, _ => by simp; exact .nil
  | _, _, _ + 1, .nil => by simp; exact .nil
  | _, _, n + 1, .cons a t => by simp; exact .cons a (Dns.take n t)
theorem Dns.drop : ∀ {vs : List V} {ds : List D} (n : Nat), Dns c H ad vs ds → Dns c H ad (vs.drop n) (ds.drop n)
  | _, _, 0, h => by simpa using h
  | _, _, _ + 1, .nil => by simp; exact .nil
  | _, _, n + 1, .cons _ t => by simpa using Dns.drop n t
theorem Dns.set : ∀ {vs : List V} {ds : List D} (n : Nat) {v : V} {d : D}, Dns c H ad vs ds → Dn c H ad v d → Dns c H ad (vs.set n v) (ds.set n d)
  | _, _, _, _, _, .nil, _ => by simp; exact .nil
  | _, _, 0, _, _, .cons _ t, h => by simp; exact .cons h t
  | _, _, n + 1, _, _, .cons a t, h => by simp; exact .cons a (Dns.set n t h)
theorem Dns.rep {vs : List V} {ds : List D} (h : Dns c H ad vs ds) : ∀ k : Nat, Dns c H ad (List.replicate k vs).flatten (List.replicate k ds).flatten
  | 0 => by simp; exact .nil
  | k + 1 => by
    rw [List.replicate_succ, List.replicate_succ, List.flatten_cons, List.flatten_cons]
    exact Dns.append h (Dns.rep h k)

/-- a name's thing -/
inductive An (c : Ct) (H : Hp) (ad : List Addr) : V → Ar → Prop
  | d {v : V} {x : D} : Dn c H ad v x → An c H ad v (.d x)
  | cel {a : Addr} {i : Nat} : ad[i]? = some a → An c H ad (.ref a) (.cel i)
  | scr {a : Addr} {ns : List Int} : a ∉ ad → SqL c.K H a (ns.map V.int) → (H a = none → False) → An c H ad (.ref a) (.scr ns)
  | kscr {a : Addr} {ns : List Int} : (∀ H', SqL c.K H' a (ns.map V.int)) → An c H ad (.ref a) (.scr ns)
  | exn {a dd : Addr} {fs : List (Str × V)} {ks : List Str} {ds : List D} : c.xd = some (a, dd) → dd ∉ ad → H dd = some (.xd fs) → fs.map (·.1) = ks → Dns c H ad (fs.map (·.2)) ds → An c H ad (.ref a) (.exn ks ds)
inductive Ans (c : Ct) (H : Hp) (ad : List Addr) : List V → List Ar → Prop
  | nil : Ans c H ad [] []
  | cons {v : V} {vs : List V} {x : Ar} {xs : List Ar} : An c H ad v x → Ans c H ad vs xs → Ans c H ad (v :: vs) (x :: xs)
theorem An.ch (h : Ch H ad H' ad') : ∀ {v : V} {x : Ar}, An c H ad v x → An c H' ad' v x
  | _, _, .d a => .d (a.ch h)
  | _, _, .cel e => by
    obtain ⟨t, rfl, _⟩ := h.pre
    exact .cel (by rw [List.getElem?_append_left (List.getElem?_eq_some_iff.mp e).1]; exact e)
  | _, _, .kscr q => .kscr q
  | _, _, .exn x n e k t => .exn x (h.out e n) (h.keep _ _ e n) k (t.ch h)
  | _, _, @An.scr _ _ _ a _ n q z => by
    cases e : H a with
    | none => exact (z e).elim
    | some o =>
      refine .scr (h.out e n) ?_ fun e' => h.there a (by rw [e]; simp) e'
      rcases q with q | q
      · exact .inl (Rd.ch h n q)
      · exact .inr q
theorem Ans.ch (h : Ch H ad H' ad') : ∀ {vs : List V} {xs : List Ar}, Ans c H ad vs xs → Ans c H' ad' vs xs
  | _, _, .nil => .nil
  | _, _, .cons a t => .cons (a.ch h) (Ans.ch h t)
theorem Ans.length : ∀ {vs : List V} {xs : List Ar}, Ans c H ad vs xs → vs.length = xs.length
  | _, _, .nil => rfl
  | _, _, .cons _ t => congrArg (· + 1) (Ans.length t)
theorem Ans.get' : ∀ {vs : List V} {xs : List Ar} {i : Nat} {x : Ar}, Ans c H ad vs xs → xs[i]? = some x → ∃ v, vs[i]? = some v ∧ An c H ad v x
  | _, _, _, _, .nil, e => by simp at e
  | _, _, 0, _, .cons a _, e => by simp at e; subst e; exact ⟨_, rfl, a⟩
  | _, _, i + 1, d, .cons _ t, e => by
    obtain ⟨v, h1, h2⟩ := Ans.get' (i := i) (x := d) t (by simpa using e)
    exact ⟨v, by simpa using h1, h2⟩

/-! ### the cells -/
def CellOk (c : Ct) (H : Hp) (ad : List Addr) (a : Addr) : Cl → Prop
  | .lst ds => ∃ vs, H a = some (.lst vs) ∧ Dns c H ad vs ds
  | .ins C ks ds => ∃ Ca dx fs, c.mg C = some (.ref Ca) ∧ H a = some (.ins Ca dx fs) ∧ fs.map (·.1) = ks ∧ Dns c H ad (fs.map (·.2)) ds
theorem CellOk.sub (h : ∀ a ∈ ad', a ∈ ad) {a : Addr} {cl : Cl} (x : CellOk c H ad a cl) : CellOk c H ad' a cl := by
  cases cl with
  | lst ds => obtain ⟨vs, e1, t⟩ := x; exact ⟨vs, e1, t.sub h⟩
  | ins C ks ds => obtain ⟨Ca, dx, fs, m, e1, k, t⟩ := x; exact ⟨Ca, dx, fs, m, e1, k, t.sub h⟩
structure Sto (c : Ct) (H : Hp) (ad : List Addr) (m : Mu) : Prop where
  nd : ad.Nodup
  len : ad.length = m.length
  at_ : ∀ (i : Nat) (a : Addr) (cl : Cl), ad[i]? = some a → m[i]? = some cl → CellOk c H ad a cl
theorem CellOk.got {a : Addr} {cl : Cl} (h : CellOk c H ad a cl) : ∃ o, H a = some o := by
  cases cl with
  | lst ds => obtain ⟨vs, e, _⟩ := h; exact ⟨_, e⟩
  | ins C ks ds => obtain ⟨_, _, _, _, e, _⟩ := h; exact ⟨_, e⟩
theorem CellOk.mv (h : Ch H ad H' ad') {a : Addr} {cl : Cl} (e : H' a = H a) (x : CellOk c H ad a cl) : CellOk c H' ad' a cl := by
  cases cl with
  | lst ds => obtain ⟨vs, e1, t⟩ := x; exact ⟨vs, e.trans e1, t.ch h⟩
  | ins C ks ds => obtain ⟨Ca, dx, fs, m, e1, k, t⟩ := x; exact ⟨Ca, dx, fs, m, e.trans e1, k, t.ch h⟩
theorem Sto.ex {m : Mu} (s : Sto c H ad m) (e : Ex H H') : Sto c H' ad m := ⟨s.nd, s.len, fun i a cl h1 h2 => by
  have x := s.at_ i a cl h1 h2
  obtain ⟨o, eo⟩ := x.got
  exact x.mv (.ex e) ((e a o eo).trans eo.symm)⟩
theorem Sto.cl {m : Mu} (s : Sto c H ad m) {i : Nat} {a : Addr} (h : ad[i]? = some a) : ∃ cl, m[i]? = some cl ∧ CellOk c H ad a cl := by
  have hi : i < m.length := by rw [← s.len]; exact (List.getElem?_eq_some_iff.mp h).1
  exact ⟨m[i], by simp [hi], s.at_ i a _ h (by simp [hi])⟩
theorem Sto.addr {m : Mu} (s : Sto c H ad m) {i : Nat} {cl : Cl} (h : m[i]? = some cl) : ∃ a, ad[i]? = some a ∧ CellOk c H ad a cl := by
  have hi : i < ad.length := by rw [s.len]; exact (List.getElem?_eq_some_iff.mp h).1
  exact ⟨ad[i], by simp [hi], s.at_ i _ cl (by simp [hi]) h⟩
/-- a cell is written -/
theorem Sto.put {m : Mu} {i : Nat} {p : Addr} {o : HO} {cl : Cl} (s : Sto c H ad m) (h : ad[i]? = some p) (x : CellOk c (upd H p o) ad p cl) : Sto c (upd H p o) ad (m.set i cl) := by
  have hp : p ∈ ad := List.mem_of_getElem? h
  refine ⟨s.nd, by simp [s.len], fun j a cl' h1 h2 => ?_⟩
  by_cases hj : j = i
  · subst hj
    rw [h] at h1; cases h1
    have hl : j < m.length := by rw [← s.len]; exact (List.getElem?_eq_some_iff.mp h).1
    rw [List.getElem?_set_self hl] at h2; cases h2
    exact x
  · rw [List.getElem?_set_ne (Ne.symm hj)] at h2
    have hne : a ≠ p := fun e => by
      subst e
      exact hj ((List.getElem?_inj (List.getElem?_eq_some_iff.mp h1).1 s.nd).mp (h1.trans h.symm))
    exact (s.at_ j a cl' h1 h2).mv (.put hp) (upd_ne hne)
/-- a new cell -/
theorem Sto.new {m : Mu} {p : Addr} {o : HO} {cl : Cl} (s : Sto c H ad m) (h : H p = none) (x : CellOk c (upd H p o) (ad ++ [p]) p cl) : Sto c (upd H p o) (ad ++ [p]) (m ++ [cl]) := by
  have np : p ∉ ad := fun z => by
    obtain ⟨i, hi⟩ := List.getElem?_of_mem z
    obtain ⟨cl', _, y⟩ := s.cl hi
    obtain ⟨o', e⟩ := y.got
    rw [h] at e; cases e
  refine ⟨?_, by simp [s.len], fun j a cl' h1 h2 => ?_⟩
  · rw [List.nodup_append]
    exact ⟨s.nd, by simp, fun a ha b hb => by rw [List.mem_singleton.mp hb]; exact fun e => np (e ▸ ha)⟩
  · by_cases hj : j < ad.length
    · rw [List.getElem?_append_left hj] at h1
      rw [List.getElem?_append_left (by rw [← s.len]; exact hj)] at h2
      exact (s.at_ j a cl' h1 h2).mv (.new h) (upd_ne fun e => np (e ▸ List.mem_of_getElem? h1))
    · have e : j = ad.length := by
        have := (List.getElem?_eq_some_iff.mp h1).1
        simp at this
        omega
      subst e
      rw [List.getElem?_append_right (Nat.le_refl _)] at h1
      rw [List.getElem?_append_right (by rw [s.len]; exact Nat.le_refl _)] at h2
      simp at h1
      rw [s.len] at h2
      simp at h2
      subst h1 h2
      exact x
/-- cells forgotten from the end -/
theorem Sto.cut {m : Mu} {n : Nat} (s : Sto c H ad m) : Sto c H (ad.take n) (m.take n) := by
  refine ⟨s.nd.sublist (List.take_sublist _ _), by simp [s.len], fun i a cl h1 h2 => ?_⟩
  rw [List.getElem?_take] at h1 h2
  split at h1
  · rename_i hi
    rw [if_pos hi] at h2
    exact (s.at_ i a cl h1 h2).sub fun b hb => List.mem_of_mem_take hb
  · cases h1
end

/-! ### slots -/
def Sl (c : Ct) (H : Hp) (ad : List Addr) (σ : L2.St) (g : Gm) : Prop :=
  g.length = σ.length ∧ ∀ (i : Nat) (x : Ar), g[i]? = some (some x) → ∃ v, σ[i]? = some (some v) ∧ An c H ad v x
section
variable {c : Ct} {H H' : Hp} {ad ad' : List Addr} {σ : L2.St} {g : Gm}
theorem Sl.ch (h : Ch H ad H' ad') (s : Sl c H ad σ g) : Sl c H' ad' σ g := ⟨s.1, fun i x e => by
  obtain ⟨v, e1, a⟩ := s.2 i x e
  exact ⟨v, e1, a.ch h⟩⟩
theorem Sl.set {i : Nat} {v : V} {x : Ar} (s : Sl c H ad σ g) (a : An c H ad v x) : Sl c H ad (σ.set i (some v)) (g.set i (some x)) := by
  refine ⟨by simp [s.1], fun j y e => ?_⟩
  by_cases hj : i = j
  · subst hj
    by_cases hl : i < g.length
    · rw [List.getElem?_set_self hl] at e
      cases e
      exact ⟨v, by rw [List.getElem?_set_self (by rw [← s.1]; exact hl)], a⟩
    · rw [List.getElem?_eq_none (by simpa using hl)] at e; cases e
  · rw [List.getElem?_set_ne hj] at e
    obtain ⟨w, e1, b⟩ := s.2 j y e
    exact ⟨w, by rw [List.getElem?_set_ne hj]; exact e1, b⟩
theorem Sl.del {i : Nat} (s : Sl c H ad σ g) : Sl c H ad (σ.set i none) (g.set i none) := by
  refine ⟨by simp [s.1], fun j y e => ?_⟩
  by_cases hj : i = j
  · subst hj
    by_cases hl : i < g.length
    · rw [List.getElem?_set_self hl] at e; cases e
    · rw [List.getElem?_eq_none (by simpa using hl)] at e; cases e
  · rw [List.getElem?_set_ne hj] at e
    obtain ⟨w, e1, b⟩ := s.2 j y e
    exact ⟨w, by rw [List.getElem?_set_ne hj]; exact e1, b⟩
/-- the slots of a block's own names forgotten -/
def wipeG (g : Gm) : List Nat → Gm
  | [] => g
  | v :: vs => (wipeG g vs).set v none
theorem Sl.wipe (s : Sl c H ad σ g) : ∀ vs : List Nat, Sl c H ad (L2.wipe σ vs) (wipeG g vs)
  | [] => s
  | v :: vs => Sl.del (Sl.wipe s vs)
end

/-! ### what is wanted of a result -/
def OutG {α β : Type} (c : Ct) (W : WX) (σ : L2.St) (H : Hp) (ad : List Addr) (rel : Hp → List Addr → β → α → Prop) (r : R α) (Q : β → Hp → Prop) : Prop :=
  match r with
  | .ok x m => ∀ v H' ad', Ch H ad H' ad' → Sto c H' ad' m → rel H' ad' v x → Q v H'
  | .exc C ks ds m => ∀ Ca x fs H' ad', c.mg C = some (.ref Ca) → Ch H ad H' ad' → Sto c H' ad' m → x ∉ ad' → H' x = some (.xd fs) → fs.map (·.1) = ks → Dns c H' ad' (fs.map (·.2)) ds → W (.ref Ca) (some x) σ H'
  | .stuck => False
section
variable {α β γ δ : Type} {c : Ct} {W : WX} {σ : L2.St} {H H1 : Hp} {ad ad1 : List Addr}
theorem OutG.mv (h : Ch H ad H1 ad1) {rel : Hp → List Addr → β → α → Prop} {r : R α} {Q : β → Hp → Prop} (o : OutG c W σ H ad rel r Q) : OutG c W σ H1 ad1 rel r Q := by
  cases r with
  | ok x m => exact fun v H' ad' a b d => o v H' ad' (h.trans a) b d
  | exc C ks ds m => exact fun Ca x fs H' ad' e a b d => o Ca x fs H' ad' e (h.trans a) b d
  | stuck => exact o
theorem OutG.imp {rel : Hp → List Addr → β → α → Prop} {r : R α} {Q Q' : β → Hp → Prop} (o : OutG c W σ H ad rel r Q) (h : ∀ v H', Q v H' → Q' v H') : OutG c W σ H ad rel r Q' := by
  cases r with
  | ok x m => exact fun v H' ad' a b d => h v H' (o v H' ad' a b d)
  | exc C ks ds m => exact o
  | stuck => exact o
/-- a first result, then the rest -/
theorem OutG.bd {rel : Hp → List Addr → β → α → Prop} {rel' : Hp → List Addr → δ → γ → Prop} {r : R α} {k : α → List Cl → R γ} {Q : δ → Hp → Prop} (o : OutG c W σ H ad rel' (r.bd k) Q) :
    OutG c W σ H ad rel r (fun v H' => ∃ ad' m x, Ch H ad H' ad' ∧ Sto c H' ad' m ∧ rel H' ad' v x ∧ OutG c W σ H' ad' rel' (k x m) Q) := by
  cases r with
  | ok x m => exact fun v H' ad' a b d => ⟨ad', m, x, a, b, d, OutG.mv a o⟩
  | exc C ks ds m => exact o
  | stuck => exact o
end
abbrev relB : Hp → List Addr → Bool → Bool → Prop := fun _ _ b b' => b = b'

/-- a mirror as a reading: of an expression, a test, arguments -/
def lft (c : Ct) (W : WX) (m : ME) : TE := fun σ H Q => ∃ g ad mu, Sl c H ad σ g ∧ Sto c H ad mu ∧ OutG c W σ H ad (An c) (m g mu) Q
def lftT (c : Ct) (W : WX) (m : MT) : TT := fun σ H Q => ∃ g ad mu, Sl c H ad σ g ∧ Sto c H ad mu ∧ OutG c W σ H ad relB (m g mu) Q
def lftA (c : Ct) (W : WX) (m : MA) : TA := fun σ H Q => ∃ g ad mu, Sl c H ad σ g ∧ Sto c H ad mu ∧ OutG c W σ H ad (Ans c) (m g mu) Q
theorem _root_.L2.PE.weak {X : Cx} {e : Expr} {t t' : TE} (h : PE X e t) (hw : ∀ σ H Q, t' σ H Q → t σ H Q) : PE X e t' := ⟨fun pins s σ H Q I q => h.run pins s σ H Q I (hw σ H Q q)⟩
theorem _root_.L2.PT.weak {X : Cx} {e : Expr} {t t' : TT} (h : PT X e t) (hw : ∀ σ H Q, t' σ H Q → t σ H Q) : PT X e t' := ⟨fun pins s σ H Q I q => h.run pins s σ H Q I (hw σ H Q q)⟩
theorem _root_.L2.PW.weak {X : Cx} {e : Expr} {t t' : TT} (h : PW X e t) (hw : ∀ σ H Q, t' σ H Q → t σ H Q) : PW X e t' := ⟨fun wh pins s σ H Q I q => h.run wh pins s σ H Q I (hw σ H Q q)⟩
theorem _root_.L2.PA.weak {X : Cx} {e : List Expr} {t t' : TA} (h : PA X e t) (hw : ∀ σ H Q, t' σ H Q → t σ H Q) : PA X e t' := ⟨fun pos pins s σ H Q I q => h.run pos pins s σ H Q I (hw σ H Q q)⟩
theorem _root_.L2.PS.weak {X : Cx} {e : Stmt} {t t' : TS} (h : PS X e t) (hw : ∀ D σ H, t' D σ H → t D σ H) : PS X e t' := ⟨fun pins s σ H D I q => h.run pins s σ H D I (hw D σ H q)⟩
theorem _root_.L2.PSs.weak {X : Cx} {e : List Stmt} {t t' : TS} (h : PSs X e t) (hw : ∀ D σ H, t' D σ H → t D σ H) : PSs X e t' := ⟨fun pins s σ H D I q => h.run pins s σ H D I (hw D σ H q)⟩
theorem _root_.L2.PO.weak {X : Cx} {e : Option Expr} {t t' : TO} (h : PO X e t) (hw : ∀ σ H Q, t' σ H Q → t σ H Q) : PO X e t' := ⟨fun pins s σ H Q I q => h.run pins s σ H Q I (hw σ H Q q)⟩

/-! ### expressions -/
def mVar (i : Nat) : ME := fun g mu => match g[i]? with
  | some (some x) => .ok x mu
  | _ => .stuck
def mC (x : D) : ME := fun _ mu => .ok (.d x) mu
section
variable {X : Cx} {c : Ct} {W : WX}
theorem de_var {i : Nat} {e : Expr} (h : PE X e (tVar i)) : PE X e (lft c W (mVar i)) := h.weak fun σ H Q ⟨g, ad, mu, hS, hT, o⟩ => by
  unfold mVar at o
  split at o
  · rename_i x e1
    obtain ⟨v, e2, a⟩ := hS.2 i x e1
    exact ⟨v, e2, o v H ad (.refl _ _) hT a⟩
  · exact o.elim
theorem de_c {v : V} {x : D} {e : Expr} (h : PE X e (tC v)) (hv : ∀ H ad, Dn c H ad v x) : PE X e (lft c W (mC x)) := h.weak fun σ H Q ⟨g, ad, mu, hS, hT, o⟩ => o v H ad (.refl _ _) hT (.d (hv H ad))
theorem de_int {i j pos} : PE X (.Constant (.int i) j pos) (lft c W (mC (.int i))) := de_c pe_int fun _ _ => .int i
theorem de_bl {b j pos} : PE X (.Constant (.bool b) j pos) (lft c W (mC (.bl b))) := de_c pe_bl fun _ _ => .bl b
theorem de_non {j pos} : PE X (.Constant .none j pos) (lft c W (mC .non)) := de_c pe_non fun _ _ => .non
theorem de_str {x j pos} : PE X (.Constant (.str x) j pos) (lft c W (mC (.str x))) := de_c pe_str fun _ _ => .str x

/-! ### two operands -/
def mBin (f : Mu → Ar → Ar → Option D) (a b : ME) : ME := fun g mu => (a g mu).bd fun x mu1 => (b g mu1).bd fun y mu2 => match f mu2 x y with
  | some z => .ok (.d z) mu2
  | none => .stuck
/-- an operation on values does what f does on data -/
def OpD (c : Ct) (r : R2) (f : Mu → Ar → Ar → Option D) : Prop :=
  ∀ (H : Hp) (ad : List Addr) (mu : Mu) (v w : V) (x y : Ar) (z : D), Sto c H ad mu → An c H ad v x → An c H ad w y → f mu x y = some z → ∀ Q : VK, (∀ u H', Ex H H' → Dn c H' ad u z → Q u H') → r v w H Q
theorem two_run {f : Mu → Ar → Ar → Option D} {r : R2} {ma mb : ME} (hf : OpD c r f) {σ : L2.St} {H : Hp} {Q : VK} (h : lft c W (mBin f ma mb) σ H Q) : tOp r (lft c W ma) (lft c W mb) σ H Q := by
  obtain ⟨g, ad, mu, hS, hT, o⟩ := h
  refine ⟨g, ad, mu, hS, hT, OutG.imp (OutG.bd (rel := An c) o) fun v H1 ⟨ad1, mu1, x, ch1, t1, dx, o1⟩ => ?_⟩
  refine ⟨g, ad1, mu1, hS.ch ch1, t1, OutG.imp (OutG.bd (rel := An c) o1) fun w H2 ⟨ad2, mu2, y, ch2, t2, dy, o2⟩ => ?_⟩
  cases hz : f mu2 x y with
  | none => rw [hz] at o2; exact o2.elim
  | some z =>
    rw [hz] at o2
    exact hf H2 ad2 mu2 v w x y z t2 (dx.ch ch2) dy hz Q fun u H' e d => o2 u H' ad2 (.ex e) (t2.ex e) (.d d)
theorem de_bin {op : Operator} {r : R2} {f : Mu → Ar → Ar → Option D} {a b : Expr} {ma mb : ME} {pos : Pos} (ho : OpR X (binaryOp op) r) (hf : OpD c r f) (ha : PE X a (lft c W ma)) (hb : PE X b (lft c W mb)) : PE X (.BinOp a op b pos) (lft c W (mBin f ma mb)) :=
  (pe_op ho ha hb).weak fun σ H Q h => two_run hf h
theorem de_cmp {op : CmpOp} {r : R2} {f : Mu → Ar → Ar → Option D} {a b : Expr} {ma mb : ME} {pos : Pos} (ho : OpR X (compareOp op) r) (hf : OpD c r f) (hm : behindInMarks op b = false) (ha : PE X a (lft c W ma)) (hb : PE X b (lft c W mb)) : PE X (.Compare a [op] [b] pos) (lft c W (mBin f ma mb)) :=
  (pe_cmpR ho ha hb hm).weak fun σ H Q h => two_run hf h
theorem de_ix {r : R2} {f : Mu → Ar → Ar → Option D} {a b : Expr} {ma mb : ME} {pos : Pos} (ho : IxR X r) (hf : OpD c r f) (ha : PE X a (lft c W ma)) (hb : PE X b (lft c W mb)) (hs : PlainIx b := by intro _ _; rfl) : PE X (.Subscript a b pos) (lft c W (mBin f ma mb)) :=
  (pe_ix ho ha hb hs).weak fun σ H Q h => two_run hf h
def mUn (f : Mu → Ar → Option D) (a : ME) : ME := fun g mu => (a g mu).bd fun x mu1 => match f mu1 x with
  | some z => .ok (.d z) mu1
  | none => .stuck
def UnD (c : Ct) (r : V → Hp → VK → Prop) (f : Mu → Ar → Option D) : Prop :=
  ∀ (H : Hp) (ad : List Addr) (mu : Mu) (v : V) (x : Ar) (z : D), Sto c H ad mu → An c H ad v x → f mu x = some z → ∀ Q : VK, (∀ u H', Ex H H' → Dn c H' ad u z → Q u H') → r v H Q
theorem de_un {op : UnaryOp} {r : V → Hp → VK → Prop} {f : Mu → Ar → Option D} {a : Expr} {ma : ME} {pos : Pos} (ho : UnR X (unaryOp op) r) (hf : UnD c r f) (ha : PE X a (lft c W ma)) : PE X (.UnaryOp op a pos) (lft c W (mUn f ma)) :=
  (pe_un ho ha).weak fun σ H Q ⟨g, ad, mu, hS, hT, o⟩ => by
    refine ⟨g, ad, mu, hS, hT, OutG.imp (OutG.bd (rel := An c) o) fun v H1 ⟨ad1, mu1, x, ch1, t1, dx, o1⟩ => ?_⟩
    cases hz : f mu1 x with
    | none => rw [hz] at o1; exact o1.elim
    | some z =>
      rw [hz] at o1
      exact hf H1 ad1 mu1 v x z t1 dx hz Q fun u H' e d => o1 u H' ad1 (.ex e) (t1.ex e) (.d d)
/-- a op1 b op2 c -/
def mChain (f f' : Mu → Ar → Ar → Option D) (a b d : ME) : ME := fun g mu => (a g mu).bd fun x mu1 => (b g mu1).bd fun y mu2 => match f mu2 x y with
  | some (.bl true) => (d g mu2).bd fun z mu3 => (match f' mu3 y z with
    | some u => .ok (.d u) mu3
    | none => .stuck)
  | some (.bl false) => .ok (.d (.bl false)) mu2
  | _ => .stuck
theorem chain_run {r r' : R2} {f f' : Mu → Ar → Ar → Option D} {ma mb md : ME} (hf : OpD c r f) (hf' : OpD c r' f') {σ : L2.St} {H : Hp} {Q : VK} (h : lft c W (mChain f f' ma mb md) σ H Q) : tChain r r' (lft c W ma) (lft c W mb) (lft c W md) σ H Q := by
    obtain ⟨g, ad, mu, hS, hT, o⟩ := h
    refine ⟨g, ad, mu, hS, hT, OutG.imp (OutG.bd (rel := An c) o) fun v H1 ⟨ad1, mu1, x, ch1, t1, dx, o1⟩ => ?_⟩
    refine ⟨g, ad1, mu1, hS.ch ch1, t1, OutG.imp (OutG.bd (rel := An c) o1) fun w H2 ⟨ad2, mu2, y, ch2, t2, dy, o2⟩ => ?_⟩
    split at o2
    · rename_i hz
      refine hf H2 ad2 mu2 v w x y _ t2 (dx.ch ch2) dy hz _ fun u H3 e du => ?_
      cases du
      refine ⟨true, rfl, iteT ⟨g, ad2, mu2, (hS.ch ch1).ch (ch2.trans (.ex e)), t2.ex e, OutG.imp (OutG.bd (rel := An c) (OutG.mv (.ex e) o2)) fun w' H4 ⟨ad4, mu4, z, ch4, t4, dz, o4⟩ => ?_⟩⟩
      cases hz' : f' mu4 y z with
      | none => rw [hz'] at o4; exact o4.elim
      | some u' =>
        rw [hz'] at o4
        exact hf' H4 ad4 mu4 w w' y z u' t4 (dy.ch ((Ch.ex e).trans ch4)) dz hz' Q fun u H' e' d => o4 u H' ad4 (.ex e') (t4.ex e') (.d d)
    · rename_i hz
      refine hf H2 ad2 mu2 v w x y _ t2 (dx.ch ch2) dy hz _ fun u H3 e du => ?_
      cases du
      exact ⟨false, rfl, iteF (o2 _ H3 ad2 (.ex e) (t2.ex e) (.d (.bl false)))⟩
    · exact o2.elim
theorem de_chain {op op' : CmpOp} {r r' : R2} {f f' : Mu → Ar → Ar → Option D} {a b d : Expr} {ma mb md : ME} {pos : Pos} (ho : OpR X (compareOp op) r) (hf : OpD c r f) (ho' : OpR X (compareOp op') r') (hf' : OpD c r' f') (ha : PE X a (lft c W ma)) (hb : PE X b (lft c W mb)) (hd : PE X d (lft c W md))
    (hm : lastMarks [op, op'] [b, d] = false := by with_unfolding_all rfl) : PE X (.Compare a [op, op'] [b, d] pos) (lft c W (mChain f f' ma mb md)) :=
  (pe_chain ho ho' ha hb hd hm).weak fun σ H Q h => chain_run hf hf' h
end
end Dw
namespace Dw
open PySem PySem.Spec L2
section
variable {X : Cx} {c : Ct} {W : WX}

/-! ### arguments, displays -/
def mNil : MA := fun _ mu => .ok [] mu
def mCons (a : ME) (r : MA) : MA := fun g mu => (a g mu).bd fun x mu1 => (r g mu1).bd fun xs mu2 => .ok (x :: xs) mu2
theorem da_nil : PA X [] (lftA c W mNil) := pa_nil.weak fun σ H Q ⟨g, ad, mu, hS, hT, o⟩ => o [] H ad (.refl _ _) hT .nil
theorem da_cons {e : Expr} {es : List Expr} {me : ME} {mr : MA} (ha : PE X e (lft c W me)) (hr : PA X es (lftA c W mr)) (hs : starEach (e :: es) X.env = (false, eval e X.env) :: starEach es X.env := by rfl) : PA X (e :: es) (lftA c W (mCons me mr)) :=
  (pa_cons ha hr hs).weak fun σ H Q ⟨g, ad, mu, hS, hT, o⟩ => by
    refine ⟨g, ad, mu, hS, hT, OutG.imp (OutG.bd (rel := An c) o) fun v H1 ⟨ad1, mu1, x, ch1, t1, dx, o1⟩ => ?_⟩
    refine ⟨g, ad1, mu1, hS.ch ch1, t1, OutG.imp (OutG.bd (rel := Ans c) o1) fun vs H2 ⟨ad2, mu2, xs, ch2, t2, dxs, o2⟩ => ?_⟩
    exact o2 (v :: vs) H2 ad2 (.refl _ _) t2 (.cons (dx.ch ch2) dxs)
def asD : List Ar → Option (List D)
  | [] => some []
  | .d x :: r => match asD r with
    | some xs => some (x :: xs)
    | none => none
  | _ :: _ => none
theorem asD_ok {H : Hp} {ad : List Addr} : ∀ {xs : List Ar} {vs : List V} {ds : List D}, Ans c H ad vs xs → asD xs = some ds → Dns c H ad vs ds
  | [], _, _, .nil, e => by cases e; exact .nil
  | .d x :: r, _, _, .cons (.d a) t, e => by
    unfold asD at e
    split at e
    · rename_i xs he
      cases e
      exact .cons a (asD_ok t he)
    · cases e
  | .cel i :: r, _, _, .cons _ t, e => by cases e
  | .scr i :: r, _, _, .cons _ t, e => by cases e
  | .exn _ _ :: r, _, _, .cons _ t, e => by cases e
def mTup (a : MA) : ME := fun g mu => (a g mu).bd fun xs mu1 => match asD xs with
  | some ds => if ds.length ≤ 16777216 then .ok (.d (.tup ds)) mu1 else .stuck
  | none => .stuck
def mLst (a : MA) : ME := fun g mu => (a g mu).bd fun xs mu1 => match asD xs with
  | some ds => if ds.length ≤ 16777216 then .ok (.d (.lst ds)) mu1 else .stuck
  | none => .stuck
/-- a list that will be changed in place -/
def mLstC (a : MA) : ME := fun g mu => (a g mu).bd fun xs mu1 => match asD xs with
  | some ds => if ds.length ≤ 16777216 then .ok (.cel mu1.length) (mu1 ++ [.lst ds]) else .stuck
  | none => .stuck
theorem Sto.free {H : Hp} {ad : List Addr} {m : Mu} {p : Addr} (s : Sto c H ad m) (h : H p = none) : p ∉ ad := fun z => by
  obtain ⟨i, hi⟩ := List.getElem?_of_mem z
  obtain ⟨cl', _, y⟩ := s.cl hi
  obtain ⟨o', e⟩ := y.got
  rw [h] at e; cases e
theorem line : sizeLine = 16777216 := sizeLine_eq
theorem new_tup {H : Hp} {ad : List Addr} {mu : Mu} {vs : List V} {ds : List D} {p : Addr} (s : Sto c H ad mu) (h : H p = none) (t : Dns c H ad vs ds) : Dn c (upd H p (.tup vs)) ad (.ref p) (.tup ds) :=
  .tup (s.free h) (.inl upd_same) (t.ch (.ex (.new h)))
theorem new_lst {H : Hp} {ad : List Addr} {mu : Mu} {vs : List V} {ds : List D} {p : Addr} (s : Sto c H ad mu) (h : H p = none) (t : Dns c H ad vs ds) : Dn c (upd H p (.lst vs)) ad (.ref p) (.lst ds) :=
  .lst (s.free h) upd_same (t.ch (.ex (.new h)))
theorem new_cell {H : Hp} {ad : List Addr} {mu : Mu} {vs : List V} {ds : List D} {p : Addr} (s : Sto c H ad mu) (h : H p = none) (t : Dns c H ad vs ds) : Sto c (upd H p (.lst vs)) (ad ++ [p]) (mu ++ [.lst ds]) ∧ An c (upd H p (.lst vs)) (ad ++ [p]) (.ref p) (.cel mu.length) :=
  ⟨s.new h ⟨vs, upd_same, t.ch (.new h)⟩, .cel (by rw [← s.len]; simp)⟩
theorem de_tup {es : List Expr} {x1 : Nat} {pos : Pos} {ma : MA} (h : PA X es (lftA c W ma)) : PE X (.Tuple es x1 pos) (lft c W (mTup ma)) :=
  (pe_tup h).weak fun σ H Q ⟨g, ad, mu, hS, hT, o⟩ => by
    refine ⟨g, ad, mu, hS, hT, OutG.imp (OutG.bd (rel := Ans c) o) fun vs H1 ⟨ad1, mu1, xs, ch1, t1, dx, o1⟩ => ?_⟩
    split at o1
    · rename_i ds hd
      split at o1
      · rename_i hl
        have t := asD_ok dx hd
        refine ⟨by rw [t.length, line]; exact hl, fun p hp => o1 _ _ ad1 (.ex (.new hp)) (t1.ex (.new hp)) (.d (new_tup t1 hp t))⟩
      · exact o1.elim
    · exact o1.elim
theorem de_lst {es : List Expr} {pos : Pos} {ma : MA} (h : PA X es (lftA c W ma)) : PE X (.List es pos) (lft c W (mLst ma)) :=
  (pe_lst h).weak fun σ H Q ⟨g, ad, mu, hS, hT, o⟩ => by
    refine ⟨g, ad, mu, hS, hT, OutG.imp (OutG.bd (rel := Ans c) o) fun vs H1 ⟨ad1, mu1, xs, ch1, t1, dx, o1⟩ => ?_⟩
    split at o1
    · rename_i ds hd
      split at o1
      · rename_i hl
        have t := asD_ok dx hd
        refine ⟨by rw [t.length, line]; exact hl, fun p hp => o1 _ _ ad1 (.ex (.new hp)) (t1.ex (.new hp)) (.d (new_lst t1 hp t))⟩
      · exact o1.elim
    · exact o1.elim
theorem de_lstC {es : List Expr} {pos : Pos} {ma : MA} (h : PA X es (lftA c W ma)) : PE X (.List es pos) (lft c W (mLstC ma)) :=
  (pe_lst h).weak fun σ H Q ⟨g, ad, mu, hS, hT, o⟩ => by
    refine ⟨g, ad, mu, hS, hT, OutG.imp (OutG.bd (rel := Ans c) o) fun vs H1 ⟨ad1, mu1, xs, ch1, t1, dx, o1⟩ => ?_⟩
    split at o1
    · rename_i ds hd
      split at o1
      · rename_i hl
        have t := asD_ok dx hd
        refine ⟨by rw [t.length, line]; exact hl, fun p hp => o1 _ _ (ad1 ++ [p]) (.new hp) (new_cell t1 hp t).1 (new_cell t1 hp t).2⟩
      · exact o1.elim
    · exact o1.elim

/-! ### tests -/
def mB (m : ME) : MT := fun g mu => (m g mu).bd fun x mu1 => match x with
  | .d (.bl b) => .ok b mu1
  | _ => .stuck
theorem tB_run {m : ME} {σ : L2.St} {H : Hp} {Q : Bool → Hp → Prop} (h : lftT c W (mB m) σ H Q) : lft c W m σ H fun x H' => ∃ k, x = .bl k ∧ Q k H' := by
  obtain ⟨g, ad, mu, hS, hT, o⟩ := h
  refine ⟨g, ad, mu, hS, hT, OutG.imp (OutG.bd (rel := An c) o) fun v H1 ⟨ad1, mu1, x, ch1, t1, dx, o1⟩ => ?_⟩
  cases dx with
  | d a =>
    cases a with
    | bl b => exact ⟨b, rfl, o1 b H1 ad1 (.refl _ _) t1 rfl⟩
    | non => exact o1.elim
    | int i => exact o1.elim
    | str x => exact o1.elim
    | tup _ _ _ => exact o1.elim
    | ktup _ _ => exact o1.elim
    | lst _ _ _ => exact o1.elim
    | ins _ _ _ _ _ => exact o1.elim
    | exo => exact o1.elim
  | cel e => exact o1.elim
  | scr _ _ _ => exact o1.elim
  | kscr _ => exact o1.elim
  | exn _ _ _ _ _ => exact o1.elim
/-- an expression with a bool, as a test -/
theorem dt_val {e : Expr} {m : ME} (h : PE X e (lft c W m)) (he : ∀ whole, isTrue e X.env whole = (do let v ← whole; standAt e.pos; holding [v] (truthy v)) := by intro _; rfl) : PT X e (lftT c W (mB m)) :=
  (pt_val h he).weak fun σ H Q q => tB_run q
theorem dt_cmp {op : CmpOp} {r : R2} {f : Mu → Ar → Ar → Option D} {a b : Expr} {ma mb : ME} {pos : Pos} (ho : OpR X (compareOp op) r) (hf : OpD c r f) (hm : behindInMarks op b = false) (ha : PE X a (lft c W ma)) (hb : PE X b (lft c W mb)) : PT X (.Compare a [op] [b] pos) (lftT c W (mB (mBin f ma mb))) :=
  (pt_cmpR ho ha hb hm).weak fun σ H Q q => by
    have h := tB_run q
    exact two_run hf h
theorem dt_chain {op op' : CmpOp} {r r' : R2} {f f' : Mu → Ar → Ar → Option D} {a b d : Expr} {ma mb md : ME} {pos : Pos} (ho : OpR X (compareOp op) r) (hf : OpD c r f) (ho' : OpR X (compareOp op') r') (hf' : OpD c r' f') (ha : PE X a (lft c W ma)) (hb : PE X b (lft c W mb)) (hd : PE X d (lft c W md))
    (hm : lastMarks [op, op'] [b, d] = false := by with_unfolding_all rfl) : PT X (.Compare a [op, op'] [b, d] pos) (lftT c W (mB (mChain f f' ma mb md))) :=
  (pt_chain ho ho' ha hb hd hm).weak fun σ H Q q => by
    have h := tB_run q
    exact chain_run hf hf' h
def mAnd (a b : MT) : MT := fun g mu => (a g mu).bd fun x mu1 => if x then b g mu1 else .ok false mu1
def mOr (a b : MT) : MT := fun g mu => (a g mu).bd fun x mu1 => if x then .ok true mu1 else b g mu1
def mNot (a : MT) : MT := fun g mu => (a g mu).bd fun x mu1 => .ok (!x) mu1
theorem dw_and1 {a : Expr} {ma : MT} {pos : Pos} (h : PT X a (lftT c W ma)) : PW X (.BoolOp .And [a] pos) (lftT c W ma) := pw_and1 h
theorem dw_or1 {a : Expr} {ma : MT} {pos : Pos} (h : PT X a (lftT c W ma)) : PW X (.BoolOp .Or [a] pos) (lftT c W ma) := pw_or1 h
theorem dw_and {a b : Expr} {rest : List Expr} {ma mb : MT} {pos : Pos} (ha : PT X a (lftT c W ma)) (hb : PW X (.BoolOp .And (b :: rest) pos) (lftT c W mb)) : PW X (.BoolOp .And (a :: b :: rest) pos) (lftT c W (mAnd ma mb)) :=
  (pw_and ha hb).weak fun σ H Q ⟨g, ad, mu, hS, hT, o⟩ => by
    refine ⟨g, ad, mu, hS, hT, OutG.imp (OutG.bd (rel := relB) o) fun b H1 ⟨ad1, mu1, x, ch1, t1, e, o1⟩ => ?_⟩
    cases e
    cases b with
    | true => exact iteT ⟨g, ad1, mu1, hS.ch ch1, t1, o1⟩
    | false => exact iteF (o1 false H1 ad1 (.refl _ _) t1 rfl)
theorem dw_or {a b : Expr} {rest : List Expr} {ma mb : MT} {pos : Pos} (ha : PT X a (lftT c W ma)) (hb : PW X (.BoolOp .Or (b :: rest) pos) (lftT c W mb)) : PW X (.BoolOp .Or (a :: b :: rest) pos) (lftT c W (mOr ma mb)) :=
  (pw_or ha hb).weak fun σ H Q ⟨g, ad, mu, hS, hT, o⟩ => by
    refine ⟨g, ad, mu, hS, hT, OutG.imp (OutG.bd (rel := relB) o) fun b H1 ⟨ad1, mu1, x, ch1, t1, e, o1⟩ => ?_⟩
    cases e
    cases b with
    | false => exact iteF ⟨g, ad1, mu1, hS.ch ch1, t1, o1⟩
    | true => exact iteT (o1 true H1 ad1 (.refl _ _) t1 rfl)
theorem dt_not {a : Expr} {ma : MT} {pos : Pos} (h : PT X a (lftT c W ma)) : PT X (.UnaryOp .Not a pos) (lftT c W (mNot ma)) :=
  (pt_not h).weak fun σ H Q ⟨g, ad, mu, hS, hT, o⟩ => by
    refine ⟨g, ad, mu, hS, hT, OutG.imp (OutG.bd (rel := relB) o) fun b H1 ⟨ad1, mu1, x, ch1, t1, e, o1⟩ => ?_⟩
    cases e
    exact o1 _ H1 ad1 (.refl _ _) t1 rfl
/-! .. as values -/
def mV (a : MT) : ME := fun g mu => (a g mu).bd fun x mu1 => .ok (.d (.bl x)) mu1
theorem relB_dn {H : Hp} {ad : List Addr} {b : Bool} : An c H ad (.bl b) (.d (.bl b)) := .d (.bl b)
theorem dv_run {m : MT} {m' : ME} (hm : ∀ g mu, mB m' g mu = m g mu) {σ : L2.St} {H : Hp} {Q : VK} (h : lft c W (mV m) σ H Q) : lft c W m' σ H fun x H' => ∃ k, x = .bl k ∧ Q (.bl k) H' := by
  obtain ⟨g, ad, mu, hS, hT, o⟩ := h
  refine tB_run (Q := fun k H' => Q (.bl k) H') ⟨g, ad, mu, hS, hT, ?_⟩
  rw [hm]
  exact OutG.imp (OutG.bd (rel := relB) o) fun b H1 ⟨ad1, mu1, x, ch1, t1, e, o1⟩ => by
    cases e
    exact o1 _ H1 ad1 (.refl _ _) t1 relB_dn
def mAndV (a b : ME) : ME := fun g mu => (a g mu).bd fun x mu1 => match x with
  | .d (.bl true) => b g mu1
  | .d (.bl false) => .ok (.d (.bl false)) mu1
  | _ => .stuck
def mOrV (a b : ME) : ME := fun g mu => (a g mu).bd fun x mu1 => match x with
  | .d (.bl false) => b g mu1
  | .d (.bl true) => .ok (.d (.bl true)) mu1
  | _ => .stuck
def mNotV (a : ME) : ME := fun g mu => (a g mu).bd fun x mu1 => match x with
  | .d (.bl b) => .ok (.d (.bl (!b))) mu1
  | _ => .stuck
theorem de_one {op : BoolOp} {a : Expr} {m : ME} {pos : Pos} (h : PE X a (lft c W m)) : PE X (.BoolOp op [a] pos) (lft c W m) := pe_one h
/-- a bool in the hand -/
theorem An.bl_inv {H : Hp} {ad : List Addr} {v : V} {x : Ar} (h : An c H ad v x) (hb : ∀ b, x ≠ .d (.bl b)) : True := trivial
theorem bl_of {H : Hp} {ad : List Addr} {v : V} {b : Bool} (h : An c H ad v (.d (.bl b))) : v = .bl b := by
  cases h with
  | d a => cases a; rfl
theorem de_and {a b : Expr} {rest : List Expr} {ma mb : ME} {pos : Pos} (ha : PE X a (lft c W ma)) (hb : PE X (.BoolOp .And (b :: rest) pos) (lft c W mb)) : PE X (.BoolOp .And (a :: b :: rest) pos) (lft c W (mAndV ma mb)) :=
  (pe_and ha hb).weak fun σ H Q ⟨g, ad, mu, hS, hT, o⟩ => by
    refine ⟨g, ad, mu, hS, hT, OutG.imp (OutG.bd (rel := An c) o) fun v H1 ⟨ad1, mu1, x, ch1, t1, dx, o1⟩ => ?_⟩
    split at o1
    · have e := bl_of dx
      subst e
      exact ⟨true, rfl, iteT ⟨g, ad1, mu1, hS.ch ch1, t1, o1⟩⟩
    · have e := bl_of dx
      subst e
      exact ⟨false, rfl, iteF (o1 _ H1 ad1 (.refl _ _) t1 relB_dn)⟩
    · exact o1.elim
theorem de_or {a b : Expr} {rest : List Expr} {ma mb : ME} {pos : Pos} (ha : PE X a (lft c W ma)) (hb : PE X (.BoolOp .Or (b :: rest) pos) (lft c W mb)) : PE X (.BoolOp .Or (a :: b :: rest) pos) (lft c W (mOrV ma mb)) :=
  (pe_or ha hb).weak fun σ H Q ⟨g, ad, mu, hS, hT, o⟩ => by
    refine ⟨g, ad, mu, hS, hT, OutG.imp (OutG.bd (rel := An c) o) fun v H1 ⟨ad1, mu1, x, ch1, t1, dx, o1⟩ => ?_⟩
    split at o1
    · have e := bl_of dx
      subst e
      exact ⟨false, rfl, iteF ⟨g, ad1, mu1, hS.ch ch1, t1, o1⟩⟩
    · have e := bl_of dx
      subst e
      exact ⟨true, rfl, iteT (o1 _ H1 ad1 (.refl _ _) t1 relB_dn)⟩
    · exact o1.elim
theorem de_not {a : Expr} {ma : ME} {pos : Pos} (ha : PE X a (lft c W ma)) : PE X (.UnaryOp .Not a pos) (lft c W (mNotV ma)) :=
  (pe_not ha).weak fun σ H Q ⟨g, ad, mu, hS, hT, o⟩ => by
    refine ⟨g, ad, mu, hS, hT, OutG.imp (OutG.bd (rel := An c) o) fun v H1 ⟨ad1, mu1, x, ch1, t1, dx, o1⟩ => ?_⟩
    split at o1
    · have e := bl_of dx
      subst e
      exact ⟨_, rfl, o1 _ H1 ad1 (.refl _ _) t1 relB_dn⟩
    · exact o1.elim
def mIf (t : MT) (a b : ME) : ME := fun g mu => (t g mu).bd fun x mu1 => if x then a g mu1 else b g mu1
theorem de_if {t a b : Expr} {mt : MT} {ma mb : ME} {pos : Pos} (ht : PT X t (lftT c W mt)) (ha : PE X a (lft c W ma)) (hb : PE X b (lft c W mb)) : PE X (.IfExp t a b pos) (lft c W (mIf mt ma mb)) :=
  (pe_ifExp ht ha hb).weak fun σ H Q ⟨g, ad, mu, hS, hT, o⟩ => by
    refine ⟨g, ad, mu, hS, hT, OutG.imp (OutG.bd (rel := relB) o) fun b H1 ⟨ad1, mu1, x, ch1, t1, e, o1⟩ => ?_⟩
    cases e
    cases b with
    | true => exact iteT ⟨g, ad1, mu1, hS.ch ch1, t1, o1⟩
    | false => exact iteF ⟨g, ad1, mu1, hS.ch ch1, t1, o1⟩

/-! ### calls of built-ins -/
def mCB (f : Mu → List Ar → Option D) (a : MA) : ME := fun g mu => (a g mu).bd fun xs mu1 => match f mu1 xs with
  | some z => .ok (.d z) mu1
  | none => .stuck
def CallD (c : Ct) (r : List V → Hp → VK → Prop) (f : Mu → List Ar → Option D) : Prop :=
  ∀ (H : Hp) (ad : List Addr) (mu : Mu) (vs : List V) (xs : List Ar) (z : D), Sto c H ad mu → Ans c H ad vs xs → f mu xs = some z → ∀ Q : VK, (∀ u H', Ex H H' → Dn c H' ad u z → Q u H') → r vs H Q
theorem cb_run {f : Mu → List Ar → Option D} {r : List V → Hp → VK → Prop} {ma : MA} (hf : CallD c r f) {σ : L2.St} {H : Hp} {Q : VK} (h : lft c W (mCB f ma) σ H Q) : tCB r (lftA c W ma) σ H Q := by
  obtain ⟨g, ad, mu, hS, hT, o⟩ := h
  refine ⟨g, ad, mu, hS, hT, OutG.imp (OutG.bd (rel := Ans c) o) fun vs H1 ⟨ad1, mu1, xs, ch1, t1, dx, o1⟩ => ?_⟩
  cases hz : f mu1 xs with
  | none => rw [hz] at o1; exact o1.elim
  | some z =>
    rw [hz] at o1
    exact hf H1 ad1 mu1 vs xs z t1 dx hz Q fun u H' e d => o1 u H' ad1 (.ex e) (t1.ex e) (.d d)
theorem de_cb {x : Str} {p pos : Pos} {e : Expr} {es : List Expr} {id : String} {r : List V → Hp → VK → Prop} {f : Mu → List Ar → Option D} {ma : MA} (hc : CallR X (.builtin id) r) (hf : CallD c r f) (hg : Gl X x) (hm : X.mg x = none) (hv : bootBuiltins x = some (.builtin id)) (ha : PA X (e :: es) (lftA c W ma)) (hn : x ≠ "__name__" := by decide) (hdb : (x == ("__debug__" : Str)) = false := by decide)
    (he : starEach (e :: es) X.env = (false, eval e X.env) :: starEach es X.env := by rfl) (hpl : (backTo pos (starEach es X.env)).any (·.1) = false := by rfl) : PE X (.Call (.Name x p) (e :: es) [] pos) (lft c W (mCB f ma)) :=
  (pe_callB hc hg hm hv ha hn hdb he hpl).weak fun σ H Q h => cb_run hf h
theorem de_ct {x : Str} {p pos : Pos} {e : Expr} {es : List Expr} {T : String} {r : List V → Hp → VK → Prop} {f : Mu → List Ar → Option D} {ma : MA} (hc : CallR X (.type T) r) (hf : CallD c r f) (hg : Gl X x) (hm : X.mg x = none) (hv : bootBuiltins x = some (.type T)) (ha : PA X (e :: es) (lftA c W ma)) (hn : x ≠ "__name__" := by decide) (hdb : (x == ("__debug__" : Str)) = false := by decide)
    (he : starEach (e :: es) X.env = (false, eval e X.env) :: starEach es X.env := by rfl) (hpl : (backTo pos (starEach es X.env)).any (·.1) = false := by rfl) : PE X (.Call (.Name x p) (e :: es) [] pos) (lft c W (mCB f ma)) :=
  (pe_callTy hc hg hm hv ha hn hdb he hpl).weak fun σ H Q h => cb_run hf h

/-! ### calls of defs -/
def spOf (c : Ct) (n : Nat) (f : List Ar → Mu → R Ar) : Sp := fun vs H Q E => vs.length = n ∧ ∃ xs ad mu, Ans c H ad vs xs ∧ Sto c H ad mu ∧ OutG c (fun cls d _ H' => E cls d H') [] H ad (An c) (f xs mu) Q
theorem OutG.wis {α β : Type} {W W' : WX} {σ σ' : L2.St} {H : Hp} {ad : List Addr} {rel : Hp → List Addr → β → α → Prop} {r : R α} {Q : β → Hp → Prop} (o : OutG c W σ H ad rel r Q) (h : ∀ cls d H, W cls d σ H → W' cls d σ' H) : OutG c W' σ' H ad rel r Q := by
  cases r with
  | ok x m => exact o
  | exc C ks ds m => exact fun Ca x fs H' ad' a1 a2 a3 a4 a5 a6 a7 => h _ _ _ (o Ca x fs H' ad' a1 a2 a3 a4 a5 a6 a7)
  | stuck => exact o
def mCall (n : Nat) (f : List Ar → Mu → R Ar) (a : MA) : ME := fun g mu => (a g mu).bd fun xs mu1 => if xs.length = n then f xs mu1 else .stuck
theorem de_call {k n : Nat} {f : Addr} {fd : FuncData} {ps : List Str} {F : List Ar → Mu → R Ar} {x : Str} {p pos : Pos} {e : Expr} {es : List Expr} {ma : MA} (G : FnOk X.prog X.w X.K X.mg X.base (L2.CX X.prog X.w) k f fd ps (spOf c n F)) (hr : Room k X.A) (hg : Gl X x) (hm : X.mg x = some (.ref f)) (hk : PySem.W.keepIn X.K (.ref f) = true) (hb : Binds X.K fd ps []) (tk : Takes X W)
    (ha : PA X (e :: es) (lftA c W ma)) (hdb : (x == ("__debug__" : Str)) = false := by decide) (he : starEach (e :: es) X.env = (false, eval e X.env) :: starEach es X.env := by rfl) (hpl : (backTo pos (starEach es X.env)).any (·.1) = false := by rfl) :
    PE X (.Call (.Name x p) (e :: es) [] pos) (lft c W (mCall n F ma)) :=
  (pe_callS (E := WE W) G hr hg hm hk hb (fun σ => passAt tk σ) ha hdb he hpl).weak fun σ H Q ⟨g, ad, mu, hS, hT, o⟩ => by
    refine ⟨g, ad, mu, hS, hT, OutG.imp (OutG.bd (rel := Ans c) o) fun vs H1 ⟨ad1, mu1, xs, ch1, t1, dx, o1⟩ => ?_⟩
    split at o1
    · rename_i hl
      exact ⟨dx.length.trans hl, xs, ad1, mu1, dx, t1, OutG.wis o1 fun cls d H' h => h⟩
    · exact o1.elim
end

/-! ### statements -/
def OutS (c : Ct) (W : WX) (H : Hp) (ad : List Addr) (r : RS) (D : Ends) : Prop :=
  match r with
  | .nx g m => ∀ σ' H' ad', Ch H ad H' ad' → Sl c H' ad' σ' g → Sto c H' ad' m → D.nx σ' H'
  | .rt a m => ∀ v H' ad', Ch H ad H' ad' → Sto c H' ad' m → An c H' ad' v a → D.rt v H'
  | .bk g m => ∀ σ' H' ad', Ch H ad H' ad' → Sl c H' ad' σ' g → Sto c H' ad' m → D.bk σ' H'
  | .ct g m => ∀ σ' H' ad', Ch H ad H' ad' → Sl c H' ad' σ' g → Sto c H' ad' m → D.ct σ' H'
  | .exc C ks ds g m => ∀ Ca x fs σ' H' ad', c.mg C = some (.ref Ca) → Ch H ad H' ad' → Sl c H' ad' σ' g → Sto c H' ad' m → x ∉ ad' → H' x = some (.xd fs) → fs.map (·.1) = ks → Dns c H' ad' (fs.map (·.2)) ds → W (.ref Ca) (some x) σ' H'
  | .stuck => False
theorem OutS.mv {c : Ct} {W : WX} {H H1 : Hp} {ad ad1 : List Addr} {r : RS} {D : Ends} (h : Ch H ad H1 ad1) (o : OutS c W H ad r D) : OutS c W H1 ad1 r D := by
  cases r with
  | nx g m => exact fun σ' H' ad' a => o σ' H' ad' (h.trans a)
  | rt x m => exact fun v H' ad' a => o v H' ad' (h.trans a)
  | bk g m => exact fun σ' H' ad' a => o σ' H' ad' (h.trans a)
  | ct g m => exact fun σ' H' ad' a => o σ' H' ad' (h.trans a)
  | exc C ks ds g m => exact fun Ca x fs σ' H' ad' e a => o Ca x fs σ' H' ad' e (h.trans a)
  | stuck => exact o
def lftS (c : Ct) (W : WX) (m : MS) : TS := fun D σ H => ∃ g ad mu, Sl c H ad σ g ∧ Sto c H ad mu ∧ OutS c W H ad (m g mu) D
/-- an expression's result in a statement -/
def R.st {α : Type} (r : R α) (g : Gm) (k : α → Mu → RS) : RS :=
  match r with
  | .ok a m => k a m
  | .exc C ks ds m => .exc C ks ds g m
  | .stuck => .stuck
theorem OutS.bd {α β : Type} {c : Ct} {W : WX} {σ : L2.St} {H : Hp} {ad : List Addr} {rel : Hp → List Addr → β → α → Prop} {r : R α} {g : Gm} {k : α → Mu → RS} {D : Ends} (hS : Sl c H ad σ g) (o : OutS c W H ad (r.st g k) D) :
    OutG c W σ H ad rel r (fun v H' => ∃ ad' m x, Ch H ad H' ad' ∧ Sto c H' ad' m ∧ rel H' ad' v x ∧ OutS c W H' ad' (k x m) D) := by
  cases r with
  | ok x m => exact fun v H' ad' a b d => ⟨ad', m, x, a, b, d, OutS.mv a o⟩
  | exc C ks ds m => exact fun Ca x fs H' ad' e a b n q1 q2 q3 => o Ca x fs σ H' ad' e a (hS.ch a) b n q1 q2 q3
  | stuck => exact o
section
variable {X : Cx} {c : Ct} {W : WX}
def mSkip : MS := fun g mu => .nx g mu
def mSeq (a b : MS) : MS := fun g mu => match a g mu with
  | .nx g' m' => b g' m'
  | .rt x m => .rt x m
  | .bk g m => .bk g m
  | .ct g m => .ct g m
  | .exc C ks ds g m => .exc C ks ds g m
  | .stuck => .stuck
theorem dss_nil : PSs X [] (lftS c W mSkip) := pss_nil.weak fun D σ H ⟨g, ad, mu, hS, hT, o⟩ => o σ H ad (.refl _ _) hS hT
theorem dss_one {st : Stmt} {m : MS} (h : PS X st (lftS c W m)) : PSs X [st] (lftS c W m) := pss_one h
theorem dss_cons {st : Stmt} {rest : List Stmt} {m m' : MS} (h1 : PS X st (lftS c W m)) (h2 : PSs X rest (lftS c W m')) : PSs X (st :: rest) (lftS c W (mSeq m m')) :=
  (pss_cons h1 h2).weak fun D σ H ⟨g, ad, mu, hS, hT, o⟩ => by
    refine ⟨g, ad, mu, hS, hT, ?_⟩
    have o' : OutS c W H ad (match m g mu with
      | .nx g' m'' => m' g' m''
      | .rt x m => .rt x m
      | .bk g m => .bk g m
      | .ct g m => .ct g m
      | .exc C ks ds g m => .exc C ks ds g m
      | .stuck => .stuck) D := o
    cases hq : m g mu with
    | nx g' m'' =>
      rw [hq] at o'
      exact fun σ' H' ad' a b d => ⟨g', ad', m'', b, d, OutS.mv a o'⟩
    | rt x m => rw [hq] at o'; exact o'
    | bk g m => rw [hq] at o'; exact o'
    | ct g m => rw [hq] at o'; exact o'
    | exc C ks ds g m => rw [hq] at o'; exact o'
    | stuck => rw [hq] at o'; exact o'
theorem ds_pass {pos : Pos} : PS X (.Pass pos) (lftS c W mSkip) := ps_pass.weak fun D σ H ⟨g, ad, mu, hS, hT, o⟩ => o σ H ad (.refl _ _) hS hT
def mBreak : MS := fun g mu => .bk g mu
def mCont : MS := fun g mu => .ct g mu
theorem ds_break {pos : Pos} : PS X (.Break pos) (lftS c W mBreak) := ps_break.weak fun D σ H ⟨g, ad, mu, hS, hT, o⟩ => o σ H ad (.refl _ _) hS hT
theorem ds_continue {pos : Pos} : PS X (.Continue pos) (lftS c W mCont) := ps_continue.weak fun D σ H ⟨g, ad, mu, hS, hT, o⟩ => o σ H ad (.refl _ _) hS hT
def mRet (e : ME) : MS := fun g mu => (e g mu).st g fun x m => .rt x m
theorem ds_ret {e : Expr} {m : ME} {pos : Pos} (h : PE X e (lft c W m)) : PS X (.Return (some e) pos) (lftS c W (mRet m)) :=
  (ps_ret h).weak fun D σ H ⟨g, ad, mu, hS, hT, o⟩ =>
    ⟨g, ad, mu, hS, hT, OutG.imp (OutS.bd (rel := An c) hS o) fun v H1 ⟨ad1, mu1, x, ch1, t1, dx, o1⟩ => o1 v H1 ad1 (.refl _ _) t1 dx⟩
def mRetN : MS := fun _ mu => .rt (.d .non) mu
theorem ds_retN {pos : Pos} : PS X (.Return none pos) (lftS c W mRetN) := ps_retN.weak fun D σ H ⟨g, ad, mu, hS, hT, o⟩ => o .non H ad (.refl _ _) hT (.d .non)
def mDrop (e : ME) : MS := fun g mu => (e g mu).st g fun _ m => .nx g m
theorem ds_expr {e : Expr} {m : ME} {pos : Pos} (h : PE X e (lft c W m)) (hs : swapsWith e none pos.line X.env = pure false := by rfl) : PS X (.Expr e pos) (lftS c W (mDrop m)) :=
  (ps_expr h hs).weak fun D σ H ⟨g, ad, mu, hS, hT, o⟩ =>
    ⟨g, ad, mu, hS, hT, OutG.imp (OutS.bd (rel := An c) hS o) fun v H1 ⟨ad1, mu1, x, ch1, t1, dx, o1⟩ => o1 σ H1 ad1 (.refl _ _) (hS.ch ch1) t1⟩
def mIfS (t : MT) (a b : MS) : MS := fun g mu => (t g mu).st g fun x m => if x then a g m else b g m
theorem ds_if {t : Expr} {a b : List Stmt} {mt : MT} {ma mb : MS} {pos : Pos} (ht : PT X t (lftT c W mt)) (ha : PSs X a (lftS c W ma)) (hb : PSs X b (lftS c W mb)) : PS X (.If t a b pos) (lftS c W (mIfS mt ma mb)) :=
  (ps_if ht ha hb).weak fun D σ H ⟨g, ad, mu, hS, hT, o⟩ => by
    refine ⟨g, ad, mu, hS, hT, OutG.imp (OutS.bd (rel := relB) hS o) fun b H1 ⟨ad1, mu1, x, ch1, t1, e, o1⟩ => ?_⟩
    cases e
    cases b with
    | true => exact iteT ⟨g, ad1, mu1, hS.ch ch1, t1, o1⟩
    | false => exact iteF ⟨g, ad1, mu1, hS.ch ch1, t1, o1⟩

/-! ### targets -/
abbrev MG := Ar → Gm → Option Gm
/-- what a target may do to other slots: anything (a statement's), or nothing but to its block's names -/
def wAny : L2.St → L2.St → Prop := fun _ _ => True
def wBlk (vs : List Nat) : L2.St → L2.St → Prop := fun σ σ1 => L2.wipe σ1 vs = L2.wipe σ vs
class WOk (wp : L2.St → L2.St → Prop) : Prop where
  refl : ∀ σ, wp σ σ
  trans : ∀ σ σ1 σ2, wp σ σ1 → wp σ1 σ2 → wp σ σ2
instance : WOk wAny := ⟨fun _ => trivial, fun _ _ _ _ _ => trivial⟩
instance (vs : List Nat) : WOk (wBlk vs) := ⟨fun _ => rfl, fun _ _ _ a b => Eq.trans b a⟩
/-- a target does what mg does -/
def GD (c : Ct) (wp : L2.St → L2.St → Prop) (t : TG) (mg : MG) : Prop :=
  ∀ (H : Hp) (ad : List Addr) (v : V) (x : Ar) (σ : L2.St) (g g1 : Gm), An c H ad v x → Sl c H ad σ g → mg x g = some g1 → ∀ Q : L2.St → Hp → Prop, (∀ σ1, Sl c H ad σ1 g1 → wp σ σ1 → Q σ1 H) → t v σ H Q
theorem wipe_get {σ : L2.St} : ∀ {vs : List Nat} {i : Nat}, (L2.wipe σ vs)[i]? = if i ∈ vs then (σ[i]?).map (fun _ => none) else σ[i]?
  | [], i => by simp [L2.wipe]
  | v :: vs, i => by
    unfold L2.wipe
    by_cases h : v = i
    · subst h
      rw [if_pos List.mem_cons_self]
      by_cases hl : v < σ.length
      · rw [List.getElem?_set_self (by rw [L2.wipe_length]; exact hl), List.getElem?_eq_getElem hl]
        rfl
      · rw [List.getElem?_eq_none (by simp [L2.wipe_length]; omega), List.getElem?_eq_none (by omega)]
        rfl
    · rw [List.getElem?_set_ne h, wipe_get (vs := vs) (i := i)]
      by_cases h2 : i ∈ vs
      · rw [if_pos h2, if_pos (List.mem_cons_of_mem _ h2)]
      · rw [if_neg h2, if_neg (by simp [h2]; exact fun z => h z.symm)]
theorem wipe_set {σ : L2.St} {vs : List Nat} {i : Nat} {y : Option V} (h : i ∈ vs) : L2.wipe (σ.set i y) vs = L2.wipe σ vs := by
  apply List.ext_getElem?
  intro j
  rw [wipe_get, wipe_get]
  by_cases hj : j ∈ vs
  · rw [if_pos hj, if_pos hj]
    by_cases e : i = j
    · subst e
      by_cases hl : i < σ.length
      · rw [List.getElem?_set_self hl, List.getElem?_eq_getElem hl]; rfl
      · rw [List.getElem?_eq_none (by simp; omega), List.getElem?_eq_none (by omega)]
    · rw [List.getElem?_set_ne e]
  · rw [if_neg hj, if_neg hj, List.getElem?_set_ne (fun e => hj (by rw [← e]; exact h))]
theorem wipe_wipe {σ : L2.St} {vs : List Nat} : L2.wipe (L2.wipe σ vs) vs = L2.wipe σ vs := by
  apply List.ext_getElem?
  intro j
  rw [wipe_get, wipe_get]
  by_cases hj : j ∈ vs
  · rw [if_pos hj, if_pos hj]
    cases σ[j]? <;> rfl
  · rw [if_neg hj, if_neg hj]
def gN (i : Nat) : MG := fun x g => some (g.set i (some x))
theorem gd_nm {i : Nat} : GD c wAny (gName i) (gN i) := fun H ad v x σ g g1 a s e Q q => by
  cases e
  exact q _ (s.set a) trivial
theorem gd_own {i : Nat} {vs : List Nat} (h : i ∈ vs) : GD c (wBlk vs) (gName i) (gN i) := fun H ad v x σ g g1 a s e Q q => by
  cases e
  exact q _ (s.set a) (wipe_set h)
/-- several targets -/
abbrev MGs := List D → Gm → Option Gm
def GDs (c : Ct) (wp : L2.St → L2.St → Prop) (t : TGs) (mg : MGs) : Prop :=
  ∀ (H : Hp) (ad : List Addr) (us : List V) (xs : List D) (σ : L2.St) (g g1 : Gm), Dns c H ad us xs → Sl c H ad σ g → mg xs g = some g1 → ∀ Q : L2.St → Hp → Prop, (∀ σ1, Sl c H ad σ1 g1 → wp σ σ1 → Q σ1 H) → t us σ H Q
def gsNil : MGs := fun xs g => match xs with
  | [] => some g
  | _ :: _ => none
def gsCons (a : MG) (r : MGs) : MGs := fun xs g => match xs with
  | x :: xs => match a (.d x) g with
    | some g1 => r xs g1
    | none => none
  | [] => none
theorem gds_nil {wp : L2.St → L2.St → Prop} [WOk wp] : GDs c wp gNil gsNil := fun H ad us xs σ g g1 a s e Q q => by
  cases a with
  | nil => cases e; exact ⟨rfl, q σ s (WOk.refl σ)⟩
  | cons _ _ => cases e
theorem gds_cons {wp : L2.St → L2.St → Prop} [WOk wp] {t : TG} {ts : TGs} {a : MG} {r : MGs} (h1 : GD c wp t a) (h2 : GDs c wp ts r) : GDs c wp (gCons t ts) (gsCons a r) := fun H ad us xs σ g g1 x s e Q q => by
  cases x with
  | nil => cases e
  | cons y ys =>
    unfold gsCons at e
    split at e
    · rename_i x0 xs0 heq
      cases heq
      split at e
      · rename_i g2 hg
        exact ⟨_, _, rfl, h1 H ad _ _ σ g g2 (.d y) s hg _ fun σ1 s1 w1 => h2 H ad _ _ σ1 g2 g1 ys s1 e Q fun σ2 s2 w2 => q σ2 s2 (WOk.trans _ _ _ w1 w2)⟩
      · cases e
    · rename_i heq; cases heq
/-- (a, b, ..) out of a tuple -/
def gT (n : Nat) (r : MGs) : MG := fun x g => match x with
  | .d (.tup xs) => if xs.length = n then r xs g else none
  | _ => none
theorem tup_of {H : Hp} {ad : List Addr} {v : V} {xs : List D} (h : An c H ad v (.d (.tup xs))) : ∃ a us, v = .ref a ∧ SqT c.K H a us ∧ Dns c H ad us xs := by
  cases h with
  | d q =>
    cases q with
    | tup n r t => exact ⟨_, _, rfl, .inl r, t⟩
    | ktup r t => exact ⟨_, _, rfl, .inr r, t⟩
theorem gd_tup {wp : L2.St → L2.St → Prop} {n : Nat} {ts : TGs} {r : MGs} (h : GDs c wp ts r) : GD c wp (gTup c.K n ts) (gT n r) := fun H ad v x σ g g1 a s e Q q => by
  unfold gT at e
  split at e
  · split at e
    · rename_i xs hl
      obtain ⟨p, us, rfl, hq, t⟩ := tup_of a
      exact ⟨p, us, rfl, hq, t.length.trans hl, h H ad us xs σ g g1 t s e Q q⟩
    · cases e
  · cases e
def mAsg (e : ME) (t : MG) : MS := fun g mu => (e g mu).st g fun x m => match t x g with
  | some g1 => .nx g1 m
  | none => .stuck
theorem asg_run {m : ME} {t : TG} {a : MG} (hg : GD c wAny t a) {D : Ends} {σ : L2.St} {H : Hp} (h : lftS c W (mAsg m a) D σ H) : tAsg (lft c W m) t D σ H := by
  obtain ⟨g, ad, mu, hS, hT, o⟩ := h
  refine ⟨g, ad, mu, hS, hT, OutG.imp (OutS.bd (rel := An c) hS o) fun v H1 ⟨ad1, mu1, x, ch1, t1, dx, o1⟩ => ?_⟩
  split at o1
  · rename_i g1 hg1
    exact hg H1 ad1 v x σ g g1 dx (hS.ch ch1) hg1 _ fun σ1 s1 _ => o1 σ1 H1 ad1 (.refl _ _) s1 t1
  · exact o1.elim
theorem ds_set {i : Nat} {x : Str} {e : Expr} {m : ME} {pos pos' : Pos} (hN : X.N.Nodup) (hi : X.N[i]? = some x) (hx : Loc X.env.scope x) (he : PE X e (lft c W m)) (hs : swapsWith e (some (.Name x pos')) pos.line X.env = pure false := by rfl) (hf : X.fn x = true ∨ X.env.scope.names.lookup x = some .local := by first | exact .inl rfl | exact .inr rfl | assumption) :
    PS X (.Assign [.Name x pos'] e pos) (lftS c W (mAsg m (gN i))) := (ps_set hN hi hx he hs hf).weak fun D σ H h => asg_run gd_nm h
theorem ds_asg {tg e : Expr} {m : ME} {t : TG} {a : MG} {pos : Pos} (he : PE X e (lft c W m)) (hg : PG X tg t) (hd : GD c wAny t a) (hs : swapsWithSole [tg] e pos.line X.env = pure false := by rfl) (hw : swappedStores [tg] e X.env = pure none := by rfl)
    (h1 : (assignEach [tg] X.env).map (·.2) = [assign tg X.env] := by rfl) : PS X (.Assign [tg] e pos) (lftS c W (mAsg m a)) := (ps_asg he hg hs hw h1).weak fun D σ H h => asg_run hd h
/-- a, b = x, y (both written) -/
def mPar (i j : Nat) (a : MA) : MS := fun g mu => (a g mu).st g fun xs m => match xs with
  | [x, y] => .nx ((g.set i (some x)).set j (some y)) m
  | _ => .stuck
theorem par_run {i j : Nat} {ma : MA} {D : Ends} {σ : L2.St} {H : Hp} (h : lftS c W (mPar i j ma) D σ H) : tPar i j (lftA c W ma) D σ H := by
  obtain ⟨g, ad, mu, hS, hT, o⟩ := h
  refine ⟨g, ad, mu, hS, hT, OutG.imp (OutS.bd (rel := Ans c) hS o) fun vs H1 ⟨ad1, mu1, xs, ch1, t1, dx, o1⟩ => ?_⟩
  split at o1
  · cases dx with
    | cons a1 t =>
      cases t with
      | cons a2 t =>
        cases t
        exact ⟨_, _, rfl, o1 _ H1 ad1 (.refl _ _) (((hS.ch ch1).set a1).set a2) t1⟩
  · exact o1.elim

/-! ### x[i] = e -/
def setC (mu : Mu) (o i : Ar) (x : D) : Option Mu := match o, i with
  | .cel n, .d (.int k) => match mu[n]? with
    | some (.lst xs) => match ixN xs.length k with
      | some j => some (mu.set n (.lst (xs.set j x)))
      | none => none
    | _ => none
  | _, _ => none
theorem setC_inv {mu m3 : Mu} {o i : Ar} {x : D} (h : setC mu o i x = some m3) : ∃ n k xs j, o = .cel n ∧ i = .d (.int k) ∧ mu[n]? = some (.lst xs) ∧ ixN xs.length k = some j ∧ m3 = mu.set n (.lst (xs.set j x)) := by
  unfold setC at h
  split at h
  · split at h
    · split at h
      · rename_i n k _ xs hm _ j hj
        exact ⟨n, k, xs, j, rfl, rfl, hm, hj, (Option.some.inj h).symm⟩
      · cases h
    · cases h
  · cases h
theorem cel_of {H : Hp} {ad : List Addr} {v : V} {i : Nat} (h : An c H ad v (.cel i)) : ∃ a, v = .ref a ∧ ad[i]? = some a := by
  cases h with
  | cel e => exact ⟨_, rfl, e⟩
theorem d_of {H : Hp} {ad : List Addr} {v : V} {x : D} (h : An c H ad v (.d x)) : Dn c H ad v x := by
  cases h with
  | d e => exact e
theorem int_of {H : Hp} {ad : List Addr} {v : V} {i : Int} (h : An c H ad v (.d (.int i))) : v = .int i := by
  cases h with
  | d a => cases a; rfl
def mSetI (e o i : ME) : MS := fun g mu => (e g mu).st g fun x m => (o g m).st g fun ov m1 => (i g m1).st g fun iv m2 => match x with
  | .d x => match setC m2 ov iv x with
    | some m3 => .nx g m3
    | none => .stuck
  | _ => .stuck
theorem ds_setI {eo ei e : Expr} {m mo mi : ME} {tpos pos : Pos} (he : PE X e (lft c W m)) (ho : PE X eo (lft c W mo)) (hi : PE X ei (lft c W mi))
    (ha : ∀ v, assign (.Subscript eo ei tpos) X.env v = (do
      let ov ← holding [v] (eval eo X.env)
      let iv ← holding [v, ov] (eval ei X.env)
      standAt tpos
      holding [v, ov, iv] (setItem ov iv v)
      release [v, ov, iv] []) := by intro _; rfl)
    (hs : swapsWithSole [.Subscript eo ei tpos] e pos.line X.env = pure false := by rfl) (hw : swappedStores [.Subscript eo ei tpos] e X.env = pure none := by rfl)
    (h1 : (assignEach [.Subscript eo ei tpos] X.env).map (·.2) = [assign (.Subscript eo ei tpos) X.env] := by rfl) : PS X (.Assign [.Subscript eo ei tpos] e pos) (lftS c W (mSetI m mo mi)) :=
  (ps_asg he (pg_sub ho hi set_list ha) hs hw h1).weak fun D σ H ⟨g, ad, mu, hS, hT, o⟩ => by
    refine ⟨g, ad, mu, hS, hT, OutG.imp (OutS.bd (rel := An c) hS o) fun v H1 ⟨ad1, mu1, x, ch1, t1, dx, o1⟩ => ?_⟩
    refine ⟨g, ad1, mu1, hS.ch ch1, t1, OutG.imp (OutS.bd (rel := An c) (hS.ch ch1) o1) fun ov H2 ⟨ad2, mu2, xo, ch2, t2, dxo, o2⟩ => ?_⟩
    refine ⟨g, ad2, mu2, (hS.ch ch1).ch ch2, t2, OutG.imp (OutS.bd (rel := An c) ((hS.ch ch1).ch ch2) o2) fun iv H3 ⟨ad3, mu3, xi, ch3, t3, dxi, o3⟩ => ?_⟩
    have dx3 := (dx.ch ch2).ch ch3
    have dxo3 := dxo.ch ch3
    have s3 := (((hS.ch ch1).ch ch2)).ch ch3
    split at o3
    · split at o3
      · rename_i hset
        obtain ⟨n, k, xs, j, rfl, rfl, hm, hj, rfl⟩ := setC_inv hset
        obtain ⟨a, rfl, ea⟩ := cel_of dxo3
        have ei := int_of dxi
        subst ei
        obtain ⟨a', ea', vs, hv, tv⟩ := t3.addr hm
        rw [ea] at ea'
        cases ea'
        have hin : a ∈ ad3 := List.mem_of_getElem? ea
        exact ⟨a, vs, k, j, rfl, rfl, hv, by rw [tv.length]; exact hj, o3 σ _ ad3 (.put hin) (s3.ch (.put hin)) (t3.put ea ⟨_, upd_same, (tv.set j (d_of dx3)).ch (.put hin)⟩)⟩
      · exact o3.elim
    · exact o3.elim

/-! ### a built-in type's method -/
def mBM (ty : Mu → Ar → Bool) (f : Mu → Ar → List Ar → Option (D × Mu)) (o : ME) (a : MA) : ME := fun g mu => (o g mu).bd fun ov m => if ty m ov then (a g m).bd fun xs m1 => (match f m1 ov xs with
  | some (z, m2) => .ok (.d z) m2
  | none => .stuck) else .stuck
structure MtD (c : Ct) (T : String) (r : V → List V → Hp → VK → Prop) (ty : Mu → Ar → Bool) (f : Mu → Ar → List Ar → Option (D × Mu)) : Prop where
  ty_ : ∀ (H : Hp) (ad : List Addr) (mu : Mu) (v : V) (x : Ar), Sto c H ad mu → An c H ad v x → ty mu x = true → tyV c.K T v H
  run : ∀ (H : Hp) (ad : List Addr) (mu : Mu) (v : V) (x : Ar) (vs : List V) (xs : List Ar) (z : D) (m2 : Mu), Sto c H ad mu → An c H ad v x → Ans c H ad vs xs → f mu x xs = some (z, m2) →
    ∀ Q : VK, (∀ u H', Ch H ad H' ad → Sto c H' ad m2 → Dn c H' ad u z → Q u H') → r v vs H Q
theorem de_bm {e : Expr} {T : String} {r : V → List V → Hp → VK → Prop} {ty : Mu → Ar → Bool} {f : Mu → Ar → List Ar → Option (D × Mu)} {mo : ME} {ma : MA} (hd : MtD c T r ty f) (h : PE X e (tBM c.K T r (lft c W mo) (lftA c W ma))) : PE X e (lft c W (mBM ty f mo ma)) :=
  h.weak fun σ H Q ⟨g, ad, mu, hS, hT, o⟩ => by
    refine ⟨g, ad, mu, hS, hT, OutG.imp (OutG.bd (rel := An c) o) fun v H1 ⟨ad1, mu1, x, ch1, t1, dx, o1⟩ => ?_⟩
    split at o1
    · rename_i ht
      refine ⟨hd.ty_ H1 ad1 mu1 v x t1 dx ht, g, ad1, mu1, hS.ch ch1, t1, OutG.imp (OutG.bd (rel := Ans c) o1) fun vs H2 ⟨ad2, mu2, xs, ch2, t2, dxs, o2⟩ => ?_⟩
      split at o2
      · rename_i z m2 hz
        exact hd.run H2 ad2 mu2 v x vs xs z m2 t2 (dx.ch ch2) dxs hz Q fun u H' a b d => o2 u H' ad2 a b (.d d)
      · exact o2.elim
    · exact o1.elim
theorem de_bm0 {e : Expr} {T : String} {r : V → List V → Hp → VK → Prop} {ty : Mu → Ar → Bool} {f : Mu → Ar → List Ar → Option (D × Mu)} {mo : ME} (hd : MtD c T r ty f) (h : PE X e (tBM0 c.K T r (lft c W mo))) : PE X e (lft c W (mBM ty f mo mNil)) :=
  h.weak fun σ H Q ⟨g, ad, mu, hS, hT, o⟩ => by
    refine ⟨g, ad, mu, hS, hT, OutG.imp (OutG.bd (rel := An c) o) fun v H1 ⟨ad1, mu1, x, ch1, t1, dx, o1⟩ => ?_⟩
    split at o1
    · rename_i ht
      refine ⟨hd.ty_ H1 ad1 mu1 v x t1 dx ht, ?_⟩
      have o2 : OutG c W σ H1 ad1 (An c) (match f mu1 x [] with
        | some (z, m2) => .ok (.d z) m2
        | none => .stuck) Q := o1
      split at o2
      · rename_i z m2 hz
        exact hd.run H1 ad1 mu1 v x [] [] z m2 t1 dx .nil hz Q fun u H' a b d => o2 u H' ad1 a b (.d d)
      · exact o2.elim
    · exact o1.elim
def isLC (mu : Mu) (x : Ar) : Bool := match x with
  | .cel n => match mu[n]? with
    | some (.lst _) => true
    | _ => false
  | _ => false
theorem isLC_ok {H : Hp} {ad : List Addr} {mu : Mu} {v : V} {x : Ar} (s : Sto c H ad mu) (a : An c H ad v x) (h : isLC mu x = true) : tyV c.K "list" v H := by
  unfold isLC at h
  split at h
  · split at h
    · rename_i n _ xs hm
      obtain ⟨p, rfl, ep⟩ := cel_of a
      obtain ⟨p', ep', vs, hv, _⟩ := s.addr hm
      rw [ep] at ep'
      cases ep'
      exact .inl ⟨rfl, vs, SqL.of hv⟩
    · cases h
  · cases h
/-- the list in a cell is written anew -/
theorem Sto.wr {H : Hp} {ad : List Addr} {mu : Mu} {n : Nat} {a : Addr} {vs : List V} {ds : List D} (s : Sto c H ad mu) (ea : ad[n]? = some a) (t : Dns c H ad vs ds) : Ch H ad (upd H a (.lst vs)) ad ∧ Sto c (upd H a (.lst vs)) ad (mu.set n (.lst ds)) :=
  ⟨.put (List.mem_of_getElem? ea), s.put ea ⟨vs, upd_same, t.ch (.put (List.mem_of_getElem? ea))⟩⟩
theorem Sto.rd {H : Hp} {ad : List Addr} {mu : Mu} {n : Nat} {v : V} {xs : List D} (s : Sto c H ad mu) (a : An c H ad v (.cel n)) (hm : mu[n]? = some (.lst xs)) : ∃ p vs, v = .ref p ∧ ad[n]? = some p ∧ H p = some (.lst vs) ∧ Dns c H ad vs xs := by
  obtain ⟨p, rfl, ep⟩ := cel_of a
  obtain ⟨p', ep', vs, hv, tv⟩ := s.addr hm
  rw [ep] at ep'
  cases ep'
  exact ⟨p, vs, rfl, ep, hv, tv⟩
def fAppend : Mu → Ar → List Ar → Option (D × Mu) := fun mu o xs => match o, xs with
  | .cel n, [.d x] => match mu[n]? with
    | some (.lst ys) => if ys.length < 16777216 then some (.non, mu.set n (.lst (ys ++ [x]))) else none
    | _ => none
  | _, _ => none
theorem Ans.one {H : Hp} {ad : List Addr} {vs : List V} {x : Ar} (h : Ans c H ad vs [x]) : ∃ v, vs = [v] ∧ An c H ad v x := by
  cases h with
  | cons a t => cases t; exact ⟨_, rfl, a⟩
theorem Ans.two {H : Hp} {ad : List Addr} {vs : List V} {x y : Ar} (h : Ans c H ad vs [x, y]) : ∃ v w, vs = [v, w] ∧ An c H ad v x ∧ An c H ad w y := by
  cases h with
  | cons a t =>
    obtain ⟨w, rfl, b⟩ := t.one
    exact ⟨_, w, rfl, a, b⟩
theorem md_append : MtD c "list" rAppend isLC fAppend := ⟨fun H ad mu v x => isLC_ok, fun H ad mu v x vs xs z m2 s a as h Q q => by
  unfold fAppend at h
  split at h
  · split at h
    · split at h
      · rename_i n y _ ys hm hl
        cases h
        obtain ⟨p, us, rfl, ep, hp, tp⟩ := s.rd a hm
        obtain ⟨w, rfl, b⟩ := as.one
        obtain ⟨ch, st⟩ := s.wr ep (tp.append (.cons (d_of b) .nil))
        exact ⟨p, us, w, rfl, rfl, hp, by rw [tp.length, line]; exact hl, q _ _ ch st .non⟩
      · cases h
    · cases h
  · cases h⟩
def fPop : Mu → Ar → List Ar → Option (D × Mu) := fun mu o xs => match o, xs with
  | .cel n, [] => match mu[n]? with
    | some (.lst ys) => match ys[ys.length - 1]? with
      | some y => some (y, mu.set n (.lst ys.dropLast))
      | none => none
    | _ => none
  | _, _ => none
theorem Dns.dropLast {H : Hp} {ad : List Addr} {vs : List V} {ds : List D} (h : Dns c H ad vs ds) : Dns c H ad vs.dropLast ds.dropLast := by
  rw [List.dropLast_eq_take, List.dropLast_eq_take, h.length]
  exact h.take _
theorem md_pop : MtD c "list" rPop isLC fPop := ⟨fun H ad mu v x => isLC_ok, fun H ad mu v x vs xs z m2 s a as h Q q => by
  unfold fPop at h
  split at h
  · split at h
    · split at h
      · rename_i n _ ys hm _ y hy
        cases h
        obtain ⟨p, us, rfl, ep, hp, tp⟩ := s.rd a hm
        obtain ⟨w, hw, b⟩ := tp.get hy
        cases as
        obtain ⟨ch, st⟩ := s.wr ep tp.dropLast
        exact ⟨p, us, w, rfl, rfl, hp, by rw [tp.length]; exact hw, q _ _ ch st (b.ch ch)⟩
      · cases h
    · cases h
  · cases h⟩

/-! ### loops -/
abbrev MI := Gm → Mu → R (List D)
/-- an iterator that yields these -/
def Wk (c : Ct) (ds : List D) (J : It) (H : Hp) (ad : List Addr) : Prop := ∀ H2 ad2, Ch H ad H2 ad2 → (∀ (i : Nat) (d : D), ds[i]? = some d → J.go i H2 ∧ ∀ x H3, J.yld i H2 x H3 → Ex H2 H3 ∧ Dn c H3 ad2 x d) ∧ J.stop ds.length H2
def lftI (c : Ct) (W : WX) (m : MI) : TI := fun σ H Q => ∃ g ad mu, Sl c H ad σ g ∧ Sto c H ad mu ∧ OutG c W σ H ad (fun H' ad' J ds => Wk c ds J H' ad') (m g mu) Q
theorem _root_.L2.PI.weak {X : Cx} {tg e : Expr} {t t' : TI} (h : PI X tg e t) (hw : ∀ σ H R, t' σ H R → t σ H R) : PI X tg e t' := ⟨fun pins s σ H R I q => h.run pins s σ H R I (hw σ H R q)⟩
def forL (t : MG) (b : MS) : List D → Gm → Mu → RS
  | [], g, m => .nx g m
  | d :: ds, g, m => match t (.d d) g with
    | none => .stuck
    | some g1 => match b g1 m with
      | .nx g2 m2 => forL t b ds g2 m2
      | .ct g2 m2 => forL t b ds g2 m2
      | .bk g2 m2 => .nx g2 m2
      | .rt x m2 => .rt x m2
      | .exc C ks es g2 m2 => .exc C ks es g2 m2
      | .stuck => .stuck
def mFor (i : MI) (t : MG) (b : MS) : MS := fun g mu => (i g mu).st g fun ds m => forL t b ds g m
theorem for_run {mi : MI} {t : TG} {mt : MG} {mb : MS} (hd : GD c wAny t mt) {D : Ends} {σ : L2.St} {H : Hp} (h : lftS c W (mFor mi mt mb) D σ H) : tFor (lftI c W mi) t (lftS c W mb) D σ H := by
  obtain ⟨g, ad, mu, hS, hT, o⟩ := h
  refine ⟨g, ad, mu, hS, hT, OutG.imp (OutS.bd hS o) fun J H1 ⟨ad1, mu1, ds, ch1, t1, wk, o1⟩ => ?_⟩
  refine ⟨fun i m σ2 H2 => m = ds.length - i ∧ i ≤ ds.length ∧ ∃ g2 ad2 mu2, Ch H1 ad1 H2 ad2 ∧ Sl c H2 ad2 σ2 g2 ∧ Sto c H2 ad2 mu2 ∧ OutS c W H2 ad2 (forL mt mb (ds.drop i) g2 mu2) D,
    ⟨ds.length, by simp, Nat.zero_le _, g, ad1, mu1, .refl _ _, hS.ch ch1, t1, o1⟩, ?_⟩
  rintro i m σ2 H2 ⟨rfl, hi, g2, ad2, mu2, ch2, s2, t2, o2⟩
  obtain ⟨w1, w2⟩ := wk H2 ad2 ch2
  by_cases hlt : i < ds.length
  · have hd0 : ds.drop i = ds[i] :: ds.drop (i + 1) := List.drop_eq_getElem_cons hlt
    rw [hd0] at o2
    have hgo := w1 i ds[i] (by simp [hlt])
    refine .inr ⟨hgo.1, fun σ' H' => i + 1 ≤ ds.length ∧ ∃ g2 ad2 mu2, Ch H1 ad1 H' ad2 ∧ Sl c H' ad2 σ' g2 ∧ Sto c H' ad2 mu2 ∧ OutS c W H' ad2 (forL mt mb (ds.drop (i + 1)) g2 mu2) D,
      fun σ' H' q => ⟨ds.length - (i + 1), by omega, rfl, q⟩, fun x H3 y => ?_⟩
    obtain ⟨e3, dx⟩ := hgo.2 x H3 y
    unfold forL at o2
    split at o2
    · exact o2.elim
    · rename_i g3 hg3
      refine hd H3 ad2 x _ σ2 g2 g3 (.d dx) (s2.ch (.ex e3)) hg3 _ fun σ3 s3 _ => ⟨g3, ad2, mu2, s3, t2.ex e3, ?_⟩
      cases hb : mb g3 mu2 with
      | nx g4 m4 =>
        rw [hb] at o2
        exact fun σ' H' ad' a b d => ⟨by omega, g4, ad', m4, (ch2.trans (.ex e3)).trans a, b, d, OutS.mv ((Ch.ex e3).trans a) o2⟩
      | ct g4 m4 =>
        rw [hb] at o2
        exact fun σ' H' ad' a b d => ⟨by omega, g4, ad', m4, (ch2.trans (.ex e3)).trans a, b, d, OutS.mv ((Ch.ex e3).trans a) o2⟩
      | bk g4 m4 =>
        rw [hb] at o2
        exact fun σ' H' ad' a b d => o2 σ' H' ad' ((Ch.ex e3).trans a) b d
      | rt x m4 =>
        rw [hb] at o2
        exact fun v H' ad' a b d => o2 v H' ad' ((Ch.ex e3).trans a) b d
      | exc C ks es g4 m4 =>
        rw [hb] at o2
        exact OutS.mv (.ex e3) o2
      | stuck => rw [hb] at o2; exact o2
  · have e : i = ds.length := by omega
    subst e
    rw [List.drop_length] at o2
    exact .inl ⟨w2, o2 σ2 H2 ad2 (.refl _ _) s2 t2⟩
theorem ds_for {tg iter : Expr} {body : List Stmt} {mi : MI} {t : TG} {mt : MG} {mb : MS} {pos : Pos} (hp : PassesOwn (model X.prog X.w) X.A X.env X.xe) (hc : X.calm = true) (hi : PI X tg iter (lftI c W mi)) (hg : PG X tg t) (hd : GD c wAny t mt) (hb : PSs X body (lftS c W mb))
    (hs : ∀ x, foldedSetIterable iter X.env x = pure x := by intro _; rfl) : PS X (.For tg iter body [] pos) (lftS c W (mFor mi mt mb)) :=
  (ps_for hp hc hi hg hb hs).weak fun D σ H h => for_run hd h
/-- the data of a sequence -/
def sqD (mu : Mu) : Ar → Option (List D)
  | .d (.tup xs) => some xs
  | .d (.lst xs) => some xs
  | _ => none
def tpD : Ar → Option (List D)
  | .d (.tup xs) => some xs
  | _ => none
def lsD : Ar → Option (List D)
  | .d (.lst xs) => some xs
  | _ => none
def mItT (e : ME) : MI := fun g mu => (e g mu).bd fun x m => match x with
  | .d (.tup xs) => .ok xs m
  | _ => .stuck
def mItL (e : ME) : MI := fun g mu => (e g mu).bd fun x m => match x with
  | .d (.lst xs) => .ok xs m
  | _ => .stuck
theorem SqT.ch {H H' : Hp} {ad ad' : List Addr} (h : Ch H ad H' ad') {a : Addr} {us : List V} (n : a ∉ ad ∨ KT c.K a us) (q : SqT c.K H a us) : SqT c.K H' a us := by
  rcases q with q | q
  · rcases n with n | n
    · exact .inl (Rd.ch h n q)
    · exact .inr n
  · exact .inr q
theorem tup_of2 {H : Hp} {ad : List Addr} {v : V} {xs : List D} (h : An c H ad v (.d (.tup xs))) : ∃ a us, v = .ref a ∧ (∀ H' ad', Ch H ad H' ad' → SqT c.K H' a us) ∧ Dns c H ad us xs := by
  cases h with
  | d q =>
    cases q with
    | tup n r t => exact ⟨_, _, rfl, fun H' ad' ch => .inl (Rd.ch ch n r), t⟩
    | ktup r t => exact ⟨_, _, rfl, fun _ _ _ => .inr r, t⟩
theorem lst_of2 {H : Hp} {ad : List Addr} {v : V} {xs : List D} (h : An c H ad v (.d (.lst xs))) : ∃ a us, v = .ref a ∧ a ∉ ad ∧ H a = some (.lst us) ∧ (∀ H' ad', Ch H ad H' ad' → SqL c.K H' a us) ∧ Dns c H ad us xs := by
  cases h with
  | d q =>
    cases q with
    | lst n r t => exact ⟨_, _, rfl, n, r, fun H' ad' ch => SqL.of (ch.keep _ _ r n), t⟩
theorem di_tup {tg e : Expr} {m : ME} (h : PE X e (lft c W m)) (hK : X.K = c.K) : PI X tg e (lftI c W (mItT m)) :=
  (pi_tup h).weak fun σ H R ⟨g, ad, mu, hS, hT, o⟩ => by
    refine ⟨g, ad, mu, hS, hT, OutG.imp (OutG.bd (rel := An c) o) fun v H1 ⟨ad1, mu1, x, ch1, t1, dx, o1⟩ => ?_⟩
    split at o1
    · rename_i xs
      obtain ⟨a, us, rfl, hq, t⟩ := tup_of2 dx
      rw [hK]
      refine ⟨a, rfl, ⟨us, hq _ _ (.refl _ _)⟩, o1 _ H1 ad1 (.refl _ _) t1 fun H2 ad2 ch => ⟨fun i d hd => ?_, us, hq _ _ ch, by rw [t.length]; exact Nat.le_refl _⟩⟩
      obtain ⟨u, hu, du⟩ := t.get hd
      refine ⟨⟨us, u, hq _ _ ch, hu⟩, fun y H3 ⟨e3, hy⟩ => ?_⟩
      subst e3
      have := hy us (hq _ _ ch)
      rw [hu] at this
      cases this
      exact ⟨.refl _, du.ch ch⟩
    · exact o1.elim
theorem di_lst {tg e : Expr} {m : ME} (h : PE X e (lft c W m)) (hK : X.K = c.K) : PI X tg e (lftI c W (mItL m)) :=
  (pi_list h).weak fun σ H R ⟨g, ad, mu, hS, hT, o⟩ => by
    refine ⟨g, ad, mu, hS, hT, OutG.imp (OutG.bd (rel := An c) o) fun v H1 ⟨ad1, mu1, x, ch1, t1, dx, o1⟩ => ?_⟩
    split at o1
    · rename_i xs
      obtain ⟨a, us, rfl, _, _, hq, t⟩ := lst_of2 dx
      rw [hK]
      refine ⟨a, rfl, ⟨us, hq _ _ (.refl _ _)⟩, o1 _ H1 ad1 (.refl _ _) t1 fun H2 ad2 ch => ⟨fun i d hd => ?_, us, hq _ _ ch, by rw [t.length]; exact Nat.le_refl _⟩⟩
      obtain ⟨u, hu, du⟩ := t.get hd
      refine ⟨⟨us, u, hq _ _ ch, hu⟩, fun y H3 ⟨e3, hy⟩ => ?_⟩
      subst e3
      have := hy us (hq _ _ ch)
      rw [hu] at this
      cases this
      exact ⟨.refl _, du.ch ch⟩
    · exact o1.elim
/-- lo .. lo + n - 1 -/
def rngD (lo : Int) (n : Nat) : List D := (List.range n).map fun i => .int (lo + (i : Nat))
theorem rngD_get {lo : Int} {n i : Nat} {d : D} (h : (rngD lo n)[i]? = some d) : i < n ∧ d = .int (lo + (i : Nat)) := by
  unfold rngD at h
  rw [List.getElem?_map] at h
  cases e : (List.range n)[i]? with
  | none => rw [e] at h; cases h
  | some j =>
    rw [e] at h
    obtain ⟨h1, h2⟩ := List.getElem?_eq_some_iff.mp e
    simp at h1 h2
    subst h2
    exact ⟨h1, (Option.some.inj h).symm⟩
theorem rngD_len {lo : Int} {n : Nat} : (rngD lo n).length = n := by simp [rngD]
theorem wk_rng {lo : Int} {n : Nat} {H : Hp} {ad : List Addr} : Wk c (rngD lo n) (Itr lo n) H ad := fun H2 ad2 ch => ⟨fun i d hd => by
  obtain ⟨h1, rfl⟩ := rngD_get hd
  refine ⟨h1, fun x H3 ⟨e3, hx⟩ => ?_⟩
  subst e3
  subst hx
  exact ⟨.refl _, .int _⟩, by rw [rngD_len]; exact Nat.le_refl n⟩
def mRng1 (a : MA) : MI := fun g mu => (a g mu).bd fun xs m => match xs with
  | [.d (.int j)] => if -(2 ^ 62) ≤ j ∧ j < 2 ^ 62 then .ok (rngD 0 j.toNat) m else .stuck
  | _ => .stuck
def mRng2 (a : MA) : MI := fun g mu => (a g mu).bd fun xs m => match xs with
  | [.d (.int i), .d (.int j)] => if -(2 ^ 62) ≤ i ∧ i < 2 ^ 62 ∧ -(2 ^ 62) ≤ j ∧ j < 2 ^ 62 then .ok (rngD i (j - i).toNat) m else .stuck
  | _ => .stuck
theorem di_rng1 {tg a : Expr} {ma : MA} {p pos : Pos} (hg : Gl X "range") (hm : X.mg "range" = none) (ha : PA X [a] (lftA c W ma)) (hs : starEach [a] X.env = [(false, eval a X.env)] := by rfl) : PI X tg (.Call (.Name "range" p) [a] [] pos) (lftI c W (mRng1 ma)) :=
  (pi_range1 hg hm ha hs).weak fun σ H R ⟨g, ad, mu, hS, hT, o⟩ => by
    refine ⟨g, ad, mu, hS, hT, OutG.imp (OutG.bd (rel := Ans c) o) fun vs H1 ⟨ad1, mu1, xs, ch1, t1, dx, o1⟩ => ?_⟩
    split at o1
    · split at o1
      · rename_i j hj
        obtain ⟨v, rfl, b⟩ := dx.one
        exact ⟨j, by rw [int_of b], hj.1, hj.2, o1 _ H1 ad1 (.refl _ _) t1 wk_rng⟩
      · exact o1.elim
    · exact o1.elim
theorem di_rng2 {tg a b : Expr} {ma : MA} {p pos : Pos} (hg : Gl X "range") (hm : X.mg "range" = none) (ha : PA X [a, b] (lftA c W ma)) (hs : starEach [a, b] X.env = [(false, eval a X.env), (false, eval b X.env)] := by rfl) (hs2 : starEach [b] X.env = [(false, eval b X.env)] := by rfl) : PI X tg (.Call (.Name "range" p) [a, b] [] pos) (lftI c W (mRng2 ma)) :=
  (pi_range2 hg hm ha hs hs2).weak fun σ H R ⟨g, ad, mu, hS, hT, o⟩ => by
    refine ⟨g, ad, mu, hS, hT, OutG.imp (OutG.bd (rel := Ans c) o) fun vs H1 ⟨ad1, mu1, xs, ch1, t1, dx, o1⟩ => ?_⟩
    split at o1
    · split at o1
      · rename_i i j hj
        obtain ⟨v, w, rfl, b1, b2⟩ := dx.two
        exact ⟨i, j, by rw [int_of b1, int_of b2], hj, o1 _ H1 ad1 (.refl _ _) t1 wk_rng⟩
      · exact o1.elim
    · exact o1.elim
/-- while, with fuel -/
def whL (t : MT) (b : MS) : Nat → Gm → Mu → RS
  | 0, _, _ => .stuck
  | n + 1, g, mu => (t g mu).st g fun x m => if x then (match b g m with
      | .nx g2 m2 => whL t b n g2 m2
      | .ct g2 m2 => whL t b n g2 m2
      | .bk g2 m2 => .nx g2 m2
      | .rt x m2 => .rt x m2
      | .exc C ks es g2 m2 => .exc C ks es g2 m2
      | .stuck => .stuck) else .nx g m
theorem while_run {n : Nat} {mt : MT} {mb : MS} {D : Ends} {σ : L2.St} {H : Hp} (h : lftS c W (whL mt mb n) D σ H) : tWhile (lftT c W mt) (lftS c W mb) D σ H := by
  obtain ⟨g, ad, mu, hS, hT, o⟩ := h
  refine ⟨fun m σ2 H2 => ∃ g2 ad2 mu2, Sl c H2 ad2 σ2 g2 ∧ Sto c H2 ad2 mu2 ∧ OutS c W H2 ad2 (whL mt mb m g2 mu2) D, ⟨n, g, ad, mu, hS, hT, o⟩, ?_⟩
  rintro m σ2 H2 ⟨g2, ad2, mu2, s2, t2, o2⟩
  cases m with
  | zero => exact o2.elim
  | succ m =>
    refine ⟨g2, ad2, mu2, s2, t2, OutG.imp (OutS.bd (rel := relB) s2 o2) fun b H3 ⟨ad3, mu3, x, ch3, t3, e, o3⟩ => ?_⟩
    cases e
    cases b with
    | false => exact iteF (o3 σ2 H3 ad3 (.refl _ _) (s2.ch ch3) t3)
    | true =>
      refine iteT ⟨fun σ' H' => ∃ g2 ad2 mu2, Sl c H' ad2 σ' g2 ∧ Sto c H' ad2 mu2 ∧ OutS c W H' ad2 (whL mt mb m g2 mu2) D, fun σ' H' q => ⟨m, Nat.lt_succ_self _, q⟩, g2, ad3, mu3, s2.ch ch3, t3, ?_⟩
      have o4 : OutS c W H3 ad3 (match mb g2 mu3 with
        | .nx g2 m2 => whL mt mb m g2 m2
        | .ct g2 m2 => whL mt mb m g2 m2
        | .bk g2 m2 => .nx g2 m2
        | .rt x m2 => .rt x m2
        | .exc C ks es g2 m2 => .exc C ks es g2 m2
        | .stuck => .stuck) D := o3
      cases hb : mb g2 mu3 with
      | nx g4 m4 =>
        rw [hb] at o4
        exact fun σ' H' ad' a b d => ⟨g4, ad', m4, b, d, OutS.mv a o4⟩
      | ct g4 m4 =>
        rw [hb] at o4
        exact fun σ' H' ad' a b d => ⟨g4, ad', m4, b, d, OutS.mv a o4⟩
      | bk g4 m4 => rw [hb] at o4; exact o4
      | rt x m4 => rw [hb] at o4; exact o4
      | exc C ks es g4 m4 => rw [hb] at o4; exact o4
      | stuck => rw [hb] at o4; exact o4
theorem ds_while {n : Nat} {t : Expr} {body : List Stmt} {mt : MT} {mb : MS} {pos : Pos} (hp : PassesOwn (model X.prog X.w) X.A X.env X.xe) (ht : PT X t (lftT c W mt)) (hb : PSs X body (lftS c W mb)) : PS X (.While t body [] pos) (lftS c W (whL mt mb n)) :=
  (ps_while hp ht hb).weak fun D σ H h => while_run h
end
end Dw
namespace Dw
open PySem PySem.Spec PyProof.Rows L2
section
variable {X : Cx} {c : Ct} {W : WX}
/-- nothing may be raised (a comprehension's block, an except suite) -/
abbrev W0 : WX := fun _ _ _ _ => False

/-! ### list comprehensions, one clause -/
/-- the loop; the list that is made stands in the cell n (the last one) -/
def lcL (n : Nat) (g : Gm) (t : MG) (mt : MT) (me : ME) : List D → Mu → R Unit
  | [], m => .ok () m
  | d :: ds, m => match t (.d d) g with
    | none => .stuck
    | some g1 => match mt g1 m with
      | .ok true m1 => (match me g1 m1 with
        | .ok (.d y) m2 => (match m2[n]? with
          | some (.lst acc) => if acc.length < 16777216 then lcL n g t mt me ds ((m2.take (n + 1)).set n (.lst (acc ++ [y]))) else .stuck
          | _ => .stuck)
        | _ => .stuck)
      | .ok false m1 => lcL n g t mt me ds (m1.take (n + 1))
      | _ => .stuck
def mLc (vs : List Nat) (i : MI) (t : MG) (mt : MT) (me : ME) : ME := fun g mu => (i g mu).bd fun ds m => (lcL m.length (wipeG g vs) t mt me ds (m ++ [.lst []])).bd fun _ m1 => match m1[m.length]? with
  | some (.lst acc) => .ok (.d (.lst acc)) (m1.take m.length)
  | _ => .stuck
/-- the list goes on as a cell -/
def mLcC (vs : List Nat) (i : MI) (t : MG) (mt : MT) (me : ME) : ME := fun g mu => (i g mu).bd fun ds m => (lcL m.length (wipeG g vs) t mt me ds (m ++ [.lst []])).bd fun _ m1 => match m1[m.length]? with
  | some (.lst acc) => .ok (.cel m.length) m1
  | _ => .stuck
theorem Ch.cut {H H' : Hp} {ad t : List Addr} (h : Ch H ad H' (ad ++ t)) : Ch H ad H' ad := ⟨h.keep, h.there, [], by simp, by simp⟩
theorem lc_run (fin : Addr → Mu → Hp → List Addr → Prop) {mt : MT} {me : ME} {t : TG} {a : MG} {vs : List Nat} {σ : L2.St} {H1 : Hp} {ad1 : List Addr} {g : Gm} {J : It} {Q : VK} (hd : GD c (wBlk vs) t a) :
    ∀ (ds : List D) (m1 : Mu), Wk c ds J H1 ad1 → Sl c H1 ad1 σ g → Sto c H1 ad1 m1 → ∀ D, H1 D = none → ∀ (mf : Mu), lcL m1.length (wipeG g vs) a mt me ds (m1 ++ [.lst []]) = .ok () mf →
      (∀ H2, Ch H1 ad1 H2 (ad1 ++ [D]) → Sto c H2 (ad1 ++ [D]) mf → Q (.ref D) H2) →
    ∃ W' : Nat → Nat → Hp → Prop, (∃ m, W' 0 m (upd H1 D (.lst []))) ∧ ∀ i m H, W' i m H →
      (J.stop i H ∧ Q (.ref D) H) ∨ (J.go i H ∧ ∃ Nx : Hp → Prop, (∀ H', Nx H' → ∃ m', m' < m ∧ W' (i + 1) m' H') ∧ ∀ x H', J.yld i H x H' → t x (L2.wipe σ vs) H' fun σ2 H2 => L2.wipe σ2 vs = L2.wipe σ vs ∧ lftT c W0 mt σ2 H2 fun b H3 =>
        if b = true then lft c W0 me σ2 H3 fun y H4 => ∃ acc, H4 D = some (.lst acc) ∧ acc.length < sizeLine ∧ Nx (upd H4 D (.lst (acc ++ [y]))) else Nx H3) := by
  intro ds m1 wk hS hT D hD mf hmf hfin
  refine ⟨fun i m H => m = ds.length - i ∧ i ≤ ds.length ∧ ∃ m2, Ch H1 ad1 H (ad1 ++ [D]) ∧ Sto c H (ad1 ++ [D]) m2 ∧ lcL m1.length (wipeG g vs) a mt me (ds.drop i) m2 = .ok () mf, ⟨ds.length, by simp, Nat.zero_le _, m1 ++ [.lst []], .new hD, hT.new (cl := .lst []) hD ⟨[], upd_same, .nil⟩, by rw [List.drop_zero]; exact hmf⟩, ?_⟩
  rintro i m H ⟨rfl, hi, m2, ch2, t2, e2⟩
  have w := wk H (ad1 ++ [D]) ch2
  have hlen : ad1.length = m1.length := hT.len
  by_cases hlt : i < ds.length
  · have hd0 : ds.drop i = ds[i] :: ds.drop (i + 1) := List.drop_eq_getElem_cons hlt
    rw [hd0] at e2
    have hgo := w.1 i ds[i] (by simp [hlt])
    refine .inr ⟨hgo.1, fun H' => i + 1 ≤ ds.length ∧ ∃ m2, Ch H1 ad1 H' (ad1 ++ [D]) ∧ Sto c H' (ad1 ++ [D]) m2 ∧ lcL m1.length (wipeG g vs) a mt me (ds.drop (i + 1)) m2 = .ok () mf, fun H' q => ⟨ds.length - (i + 1), by omega, rfl, q⟩, fun x H3 y => ?_⟩
    obtain ⟨e3, dx⟩ := hgo.2 x H3 y
    unfold lcL at e2
    split at e2
    · cases e2
    · rename_i g3 hg3
      have ch3 : Ch H1 ad1 H3 (ad1 ++ [D]) := ch2.trans (.ex e3)
      refine hd H3 (ad1 ++ [D]) x _ (L2.wipe σ vs) (wipeG g vs) g3 (.d dx) ((hS.wipe vs).ch ch3) hg3 _ fun σ3 s3 w3 => ⟨Eq.trans w3 wipe_wipe, ?_⟩
      refine ⟨g3, ad1 ++ [D], m2, s3, t2.ex e3, ?_⟩
      cases ht : mt g3 m2 with
      | stuck => rw [ht] at e2; cases e2
      | exc C ks es m4 => rw [ht] at e2; cases e2
      | ok b m4 =>
        rw [ht] at e2
        intro b' H4 ad4 ch4 t4 eb
        cases eb
        cases b with
        | false =>
          refine iteF ⟨by omega, m4.take (m1.length + 1), ?_, ?_, e2⟩
          · obtain ⟨tt, rfl, _⟩ := ch4.pre
            exact ch3.trans ch4.cut
          · obtain ⟨tt, rfl, _⟩ := ch4.pre
            have q := t4.cut (n := m1.length + 1)
            rw [List.take_append_of_le_length (by simp; omega), List.take_of_length_le (by simp; omega)] at q
            exact q
        | true =>
          refine iteT ⟨g3, ad4, m4, s3.ch ch4, t4, ?_⟩
          cases he : me g3 m4 with
          | stuck => simp only [he] at e2; cases e2
          | exc C ks es m5 => simp only [he] at e2; cases e2
          | ok y5 m5 =>
            simp only [he] at e2
            intro y H5 ad5 ch5 t5 dy
            cases y5 with
            | cel j => cases e2
            | scr j => cases e2
            | exn _ _ => cases e2
            | d y5 =>
              simp only at e2
              split at e2
              · rename_i acc hacc
                split at e2
                · rename_i hl
                  have ch35 : Ch H3 (ad1 ++ [D]) H5 ad5 := ch4.trans ch5
                  obtain ⟨tt, rfl, _⟩ := ch35.pre
                  have hDi : (ad1 ++ [D] ++ tt)[m1.length]? = some D := by
                    rw [List.getElem?_append_left (by simp; omega), List.getElem?_append_right (by omega), hlen]
                    simp
                  obtain ⟨p', ep', us, hu, tu⟩ := t5.addr hacc
                  rw [hDi] at ep'
                  cases ep'
                  have q := t5.cut (n := m1.length + 1)
                  rw [List.take_append_of_le_length (by simp; omega), List.take_of_length_le (by simp; omega)] at q
                  have hDi2 : (ad1 ++ [D])[m1.length]? = some D := by
                    rw [List.getElem?_append_right (by omega), hlen]
                    simp
                  have sub : ∀ b ∈ ad1 ++ [D], b ∈ ad1 ++ [D] ++ tt := fun b hb => List.mem_append_left _ hb
                  obtain ⟨c6, s6⟩ := q.wr hDi2 ((tu.sub sub).append (.cons ((d_of dy).sub sub) .nil))
                  exact ⟨us, hu, by rw [tu.length, line]; exact hl, by omega, _, (ch3.trans ch35.cut).trans c6, s6, e2⟩
                · cases e2
              · cases e2
  · have e : i = ds.length := by omega
    subst e
    rw [List.drop_length] at e2
    cases e2
    exact .inl ⟨w.2, hfin H ch2 t2⟩
theorem lcL_noexc {n : Nat} {g : Gm} {t : MG} {mt : MT} {me : ME} {C : Str} {ks : List Str} {es : List D} {mf : Mu} : ∀ (ds : List D) (m : Mu), lcL n g t mt me ds m = .exc C ks es mf → False
  | [], m, h => by cases h
  | d :: ds, m, h => by
    unfold lcL at h
    split at h
    · cases h
    · split at h
      · split at h
        · split at h
          · split at h
            · exact lcL_noexc ds _ h
            · cases h
          · cases h
        · cases h
      · exact lcL_noexc ds _ h
      · cases h
theorem mLc_run {vs : List Nat} {mi : MI} {a : MG} {mt : MT} {me : ME} {t : TG} (hd : GD c (wBlk vs) t a) {σ : L2.St} {H : Hp} {Q : VK} (h : lft c W (mLc vs mi a mt me) σ H Q) : tLc (lftI c W mi) t (lftT c W0 mt) (lft c W0 me) vs σ H Q := by
  obtain ⟨g, ad, mu, hS, hT, o⟩ := h
  refine ⟨g, ad, mu, hS, hT, OutG.imp (OutG.bd (rel := fun H' ad' J ds => Wk c ds J H' ad') o) fun J H1 ⟨ad1, m1, ds, ch1, t1, wk, o1⟩ D hD => ?_⟩
  cases hl : lcL m1.length (wipeG g vs) a mt me ds (m1 ++ [.lst []]) with
  | stuck => simp only [hl, R.bd] at o1; exact o1.elim
  | exc C ks es mf =>
    -- a comprehension's loop never ends so
    exfalso
    exact lcL_noexc _ _ hl
  | ok u mf =>
    simp only [hl, R.bd] at o1
    refine lc_run (fun _ _ _ _ => True) hd ds m1 wk (hS.ch ch1) t1 D hD mf hl fun H2 ch2 t2 => ?_
    split at o1
    · rename_i acc hacc
      have hlen : ad1.length = m1.length := t1.len
      have hDi : (ad1 ++ [D])[m1.length]? = some D := by
        rw [List.getElem?_append_right (by omega), hlen]; simp
      obtain ⟨p', ep', us, hu, tu⟩ := t2.addr hacc
      rw [hDi] at ep'
      cases ep'
      have q := t2.cut (n := m1.length)
      rw [List.take_append_of_le_length (by omega), List.take_of_length_le (by omega)] at q
      have hn : D ∉ ad1 := t1.free hD
      exact o1 _ H2 ad1 ch2.cut q (.d (.lst hn hu (tu.sub fun b hb => List.mem_append_left _ hb)))
    · exact o1.elim
theorem mLcC_run {vs : List Nat} {mi : MI} {a : MG} {mt : MT} {me : ME} {t : TG} (hd : GD c (wBlk vs) t a) {σ : L2.St} {H : Hp} {Q : VK} (h : lft c W (mLcC vs mi a mt me) σ H Q) : tLc (lftI c W mi) t (lftT c W0 mt) (lft c W0 me) vs σ H Q := by
  obtain ⟨g, ad, mu, hS, hT, o⟩ := h
  refine ⟨g, ad, mu, hS, hT, OutG.imp (OutG.bd (rel := fun H' ad' J ds => Wk c ds J H' ad') o) fun J H1 ⟨ad1, m1, ds, ch1, t1, wk, o1⟩ D hD => ?_⟩
  cases hl : lcL m1.length (wipeG g vs) a mt me ds (m1 ++ [.lst []]) with
  | stuck => simp only [hl, R.bd] at o1; exact o1.elim
  | exc C ks es mf => exact (lcL_noexc _ _ hl).elim
  | ok u mf =>
    simp only [hl, R.bd] at o1
    refine lc_run (fun _ _ _ _ => True) hd ds m1 wk (hS.ch ch1) t1 D hD mf hl fun H2 ch2 t2 => ?_
    split at o1
    · have hlen : ad1.length = m1.length := t1.len
      have hDi : (ad1 ++ [D])[m1.length]? = some D := by
        rw [List.getElem?_append_right (by omega), hlen]; simp
      exact o1 _ H2 (ad1 ++ [D]) ch2 t2 (.cel hDi)
    · exact o1.elim
def mYes : MT := fun _ mu => .ok true mu
theorem dts_nil : PTs X [] (lftT c W mYes) := ⟨fun pins s σ H Q I h => pts_nil.run pins s σ H Q I (by
  obtain ⟨g, ad, mu, hS, hT, o⟩ := h
  exact o true H ad (.refl _ _) hT rfl)⟩
theorem dts_one {t : Expr} {m : MT} (h : PT X t (lftT c W m)) : PTs X [t] (lftT c W m) := pts_one h
theorem de_lc {elt tg iter : Expr} {ifs : List Expr} {scope : Scope} {own : List (Str × Nat)} {pos : Pos} {mi : MI} {t : TG} {a : MG} {mt : MT} {me : ME} (hc : X.calm = true) (hN : X.N.Nodup) (hi : PI X tg iter (lftI c W mi)) (ok : BlkOk X.N X.env.scope scope own)
    (hg : ∀ (s : Shared) (H : Hp) (C : Addr) (cl : List (Str × Addr)) (fp : List Addr), PG (X.blk s H scope (compEnvC scope cl C X.env) fp) tg t) (hd : GD c (wBlk (own.map (·.2))) t a)
    (ht : ∀ (s : Shared) (H : Hp) (C : Addr) (cl : List (Str × Addr)) (fp : List Addr), PTs (X.blk s H scope (compEnvC scope cl C X.env) fp) ifs (lftT c W0 mt))
    (he : ∀ (s : Shared) (H : Hp) (C : Addr) (cl : List (Str × Addr)) (fp : List Addr), PE (X.blk s H scope (compEnvC scope cl C X.env) fp) elt (lft c W0 me)) (hs : ∀ x, foldedSetIterable iter X.env x = pure x := by intro _; rfl) :
    PE X (.ListComp elt [⟨tg, iter, ifs, 0⟩] scope pos) (lft c W (mLc (own.map (·.2)) mi a mt me)) := (pe_lc hc hN hi ok hg ht he hs).weak fun σ H Q h => mLc_run hd h
theorem de_lcC {elt tg iter : Expr} {ifs : List Expr} {scope : Scope} {own : List (Str × Nat)} {pos : Pos} {mi : MI} {t : TG} {a : MG} {mt : MT} {me : ME} (hc : X.calm = true) (hN : X.N.Nodup) (hi : PI X tg iter (lftI c W mi)) (ok : BlkOk X.N X.env.scope scope own)
    (hg : ∀ (s : Shared) (H : Hp) (C : Addr) (cl : List (Str × Addr)) (fp : List Addr), PG (X.blk s H scope (compEnvC scope cl C X.env) fp) tg t) (hd : GD c (wBlk (own.map (·.2))) t a)
    (ht : ∀ (s : Shared) (H : Hp) (C : Addr) (cl : List (Str × Addr)) (fp : List Addr), PTs (X.blk s H scope (compEnvC scope cl C X.env) fp) ifs (lftT c W0 mt))
    (he : ∀ (s : Shared) (H : Hp) (C : Addr) (cl : List (Str × Addr)) (fp : List Addr), PE (X.blk s H scope (compEnvC scope cl C X.env) fp) elt (lft c W0 me)) (hs : ∀ x, foldedSetIterable iter X.env x = pure x := by intro _; rfl) :
    PE X (.ListComp elt [⟨tg, iter, ifs, 0⟩] scope pos) (lft c W (mLcC (own.map (·.2)) mi a mt me)) := (pe_lc hc hN hi ok hg ht he hs).weak fun σ H Q h => mLcC_run hd h
/-- name = [..], the name a local, on one line -/
theorem ds_setLc {i : Nat} {y : Str} {py : Pos} {elt tg iter : Expr} {ifs : List Expr} {scope : Scope} {own : List (Str × Nat)} {pos spos : Pos} {mi : MI} {t : TG} {a : MG} {mt : MT} {me : ME} (hc : X.calm = true) (hN : X.N.Nodup) (hy : X.N[i]? = some y) (hyl : X.env.scope.names.lookup y = some .local)
    (hsw : swapsWith (.ListComp elt [⟨tg, iter, ifs, 0⟩] scope pos) (some (.Name y py)) spos.line X.env = pure true) (hi : PI X tg iter (lftI c W mi)) (ok : BlkOk X.N X.env.scope scope own)
    (hg : ∀ (s : Shared) (H : Hp) (C : Addr) (cl : List (Str × Addr)) (fp : List Addr), PG (X.blk s H scope (compEnvC scope cl C X.env) fp) tg t) (hd : GD c (wBlk (own.map (·.2))) t a)
    (ht : ∀ (s : Shared) (H : Hp) (C : Addr) (cl : List (Str × Addr)) (fp : List Addr), PTs (X.blk s H scope (compEnvC scope cl C X.env) fp) ifs (lftT c W0 mt))
    (he : ∀ (s : Shared) (H : Hp) (C : Addr) (cl : List (Str × Addr)) (fp : List Addr), PE (X.blk s H scope (compEnvC scope cl C X.env) fp) elt (lft c W0 me)) (hs : ∀ x, foldedSetIterable iter X.env x = pure x := by intro _; rfl) :
    PS X (.Assign [.Name y py] (.ListComp elt [⟨tg, iter, ifs, 0⟩] scope pos) spos) (lftS c W (mAsg (mLc (own.map (·.2)) mi a mt me) (gN i))) :=
  (ps_setLc hc hN hy hyl hsw hi ok hg ht he hs).weak fun D σ H h => mLc_run hd (asg_run (t := gName i) gd_nm h)

theorem ds_setLcC {i : Nat} {y : Str} {py : Pos} {elt tg iter : Expr} {ifs : List Expr} {scope : Scope} {own : List (Str × Nat)} {pos spos : Pos} {mi : MI} {t : TG} {a : MG} {mt : MT} {me : ME} (hc : X.calm = true) (hN : X.N.Nodup) (hy : X.N[i]? = some y) (hyl : X.env.scope.names.lookup y = some .local)
    (hsw : swapsWith (.ListComp elt [⟨tg, iter, ifs, 0⟩] scope pos) (some (.Name y py)) spos.line X.env = pure true) (hi : PI X tg iter (lftI c W mi)) (ok : BlkOk X.N X.env.scope scope own)
    (hg : ∀ (s : Shared) (H : Hp) (C : Addr) (cl : List (Str × Addr)) (fp : List Addr), PG (X.blk s H scope (compEnvC scope cl C X.env) fp) tg t) (hd : GD c (wBlk (own.map (·.2))) t a)
    (ht : ∀ (s : Shared) (H : Hp) (C : Addr) (cl : List (Str × Addr)) (fp : List Addr), PTs (X.blk s H scope (compEnvC scope cl C X.env) fp) ifs (lftT c W0 mt))
    (he : ∀ (s : Shared) (H : Hp) (C : Addr) (cl : List (Str × Addr)) (fp : List Addr), PE (X.blk s H scope (compEnvC scope cl C X.env) fp) elt (lft c W0 me)) (hs : ∀ x, foldedSetIterable iter X.env x = pure x := by intro _; rfl) :
    PS X (.Assign [.Name y py] (.ListComp elt [⟨tg, iter, ifs, 0⟩] scope pos) spos) (lftS c W (mAsg (mLcC (own.map (·.2)) mi a mt me) (gN i))) :=
  (ps_setLc hc hN hy hyl hsw hi ok hg ht he hs).weak fun D σ H h => mLcC_run hd (asg_run (t := gName i) gd_nm h)

/-! ### a def -/
def popR (n : Nat) (a : Ar) (m : Mu) : R Ar := match a with
  | .d x => .ok (.d x) (m.take n)
  | .cel i => if i < n then .ok (.cel i) (m.take n) else (match m[i]? with
    | some cl => .ok (.cel n) (m.take n ++ [cl])
    | none => .stuck)
  | _ => .stuck
/-- a def's mirror by that of its body: N slots -/
def fnM (N : Nat) (m : MS) : List Ar → Mu → R Ar := fun xs mu => match m (xs.map some ++ List.replicate (N - xs.length) none) mu with
  | .nx _ m' => popR mu.length (.d .non) m'
  | .rt a m' => popR mu.length a m'
  | .exc C ks ds _ m' => .exc C ks ds (m'.take mu.length)
  | _ => .stuck
theorem pop_run {H H' : Hp} {ad ad' : List Addr} {mu m' : Mu} {v : V} {a : Ar} {Q : VK} {W' : WX} {σ : L2.St} (hT : Sto c H ad mu) (ch : Ch H ad H' ad') (t : Sto c H' ad' m') (x : An c H' ad' v a) (o : OutG c W' σ H ad (An c) (popR mu.length a m') Q) : Q v H' := by
  obtain ⟨tt, rfl, htt⟩ := ch.pre
  have hlen := hT.len
  have cut : Sto c H' ad (m'.take mu.length) := by
    have q := t.cut (n := mu.length)
    rw [List.take_append_of_le_length (by omega), List.take_of_length_le (by omega)] at q
    exact q
  have sub : ∀ b ∈ ad, b ∈ ad ++ tt := fun b hb => List.mem_append_left _ hb
  unfold popR at o
  split at o
  · exact o v H' ad ch.cut cut (.d ((d_of x).sub sub))
  · rename_i i
    obtain ⟨p, rfl, ep⟩ := cel_of x
    split at o
    · rename_i hi
      rw [List.getElem?_append_left (by omega)] at ep
      exact o _ H' ad ch.cut cut (.cel ep)
    · rename_i hi
      split at o
      · rename_i cl hcl
        have hp : p ∈ tt := by
          rw [List.getElem?_append_right (by omega)] at ep
          exact List.mem_of_getElem? ep
        have hpn : H p = none := htt p hp
        have hpad : p ∉ ad := hT.free hpn
        refine o _ H' (ad ++ [p]) ⟨ch.keep, ch.there, [p], rfl, fun b hb => by rw [List.mem_singleton.mp hb]; exact hpn⟩ ?_ (.cel (by rw [← hlen]; simp))
        have sub2 : ∀ b ∈ ad ++ [p], b ∈ ad ++ tt := fun b hb => by
          rcases List.mem_append.mp hb with h1 | h1
          · exact List.mem_append_left _ h1
          · rw [List.mem_singleton.mp h1]; exact List.mem_append_right _ hp
        have lt : (m'.take mu.length).length = ad.length := by rw [← cut.len]
        refine ⟨?_, by simp only [List.length_append, List.length_singleton, lt], fun j b cl' h1 h2 => ?_⟩
        · rw [List.nodup_append]
          exact ⟨cut.nd, by simp, fun b hb d hd => by rw [List.mem_singleton.mp hd]; exact fun e => hpad (e ▸ hb)⟩
        · by_cases hj : j < ad.length
          · rw [List.getElem?_append_left hj] at h1
            rw [List.getElem?_append_left (by omega)] at h2
            rw [List.getElem?_take] at h2
            split at h2
            · refine (t.at_ j b cl' ?_ h2).sub sub2
              rw [List.getElem?_append_left hj]; exact h1
            · cases h2
          · have e : j = ad.length := by
              have := (List.getElem?_eq_some_iff.mp h1).1
              simp at this
              omega
            subst e
            rw [List.getElem?_append_right (Nat.le_refl _)] at h1
            rw [List.getElem?_append_right (by omega)] at h2
            rw [lt] at h2
            simp at h1 h2
            subst h1 h2
            exact (t.at_ i p cl ep hcl).sub sub2
      · exact o.elim
  · exact o.elim
theorem start_sl {H : Hp} {ad : List Addr} {vs : List V} {xs : List Ar} {N : List Str} (h : Ans c H ad vs xs) : Sl c H ad (L2.start N vs) (xs.map some ++ List.replicate (N.length - xs.length) none) := by
  have hl := h.length
  refine ⟨by simp [L2.start, hl], fun i x e => ?_⟩
  by_cases hi : i < xs.length
  · rw [List.getElem?_append_left (by simpa using hi), List.getElem?_map] at e
    cases q : xs[i]? with
    | none => rw [q] at e; cases e
    | some y =>
      rw [q] at e
      cases e
      obtain ⟨v, hv, a⟩ := h.get' q
      refine ⟨v, ?_, a⟩
      unfold L2.start
      rw [List.getElem?_append_left (by simpa [hl] using hi), List.getElem?_map, hv]
      rfl
  · rw [List.getElem?_append_right (by simpa using hi)] at e
    rw [List.getElem?_replicate] at e
    split at e
    · cases e
    · cases e
end
section
variable {P : Program} {w : World} {K : PySem.W.Frag} {mg : Str → Option Value} {base : Heap}
/-- THE RULE for a def by its mirror -/
theorem dfn {x qual : Str} {st : Stmt} {f : Addr} {fd : FuncData} {N ps : List Str} {k n : Nat} {m : MS} (F : Fun K x qual st f fd) (S : FnScope N ps (defScope st)) (hn : ps.length = n)
    (hbody : ∀ (cdv : Value) (A : Around) (outer : List Env) (s : Shared) (H : Hp) (E : XK), Room k (A.deeper (envOfC qual (defScope st) s.heap.objs.size f cdv)) → Takes (cxOf (L2.CX P w) P w K mg base N qual (defScope st) f cdv A outer s H E) (fun cls d _ H => E cls d H) →
      PassesOwn (model (cxOf (L2.CX P w) P w K mg base N qual (defScope st) f cdv A outer s H E).prog (cxOf (L2.CX P w) P w K mg base N qual (defScope st) f cdv A outer s H E).w) (cxOf (L2.CX P w) P w K mg base N qual (defScope st) f cdv A outer s H E).A (cxOf (L2.CX P w) P w K mg base N qual (defScope st) f cdv A outer s H E).env (cxOf (L2.CX P w) P w K mg base N qual (defScope st) f cdv A outer s H E).xe →
      PSs (cxOf (L2.CX P w) P w K mg base N qual (defScope st) f cdv A outer s H E) (defBody st) (lftS ⟨K, mg, none⟩ (fun cls d _ H => E cls d H) m)) :
    FnOk P w K mg base (L2.CX P w) (k + 1) f fd ps (spOf ⟨K, mg, none⟩ n (fnM N.length m)) := by
  refine F.okX S (fun vs H Q E h => h.1.trans hn.symm) (fun cdv A outer s H vs Q E hr h => ⟨_, hbody cdv A outer s H E hr (takes_of rfl rfl rfl rfl) (passes_of rfl), ?_⟩)
  obtain ⟨hl, xs, ad, mu, hx, hT, o⟩ := h
  refine ⟨_, ad, mu, start_sl hx, hT, ?_⟩
  unfold fnM at o
  cases hb : m (xs.map some ++ List.replicate (N.length - xs.length) none) mu with
  | nx g' m' =>
    rw [hb] at o
    exact fun σ' H' ad' a b d => pop_run hT a d (.d .non) o
  | rt y m' =>
    rw [hb] at o
    exact fun v H' ad' a b d => pop_run hT a b d o
  | exc C ks ds g' m' =>
    rw [hb] at o
    intro Ca x0 fs σ' H' ad' e0 ch s0 t0 nx hx0 hk hds
    obtain ⟨tt, rfl, htt⟩ := ch.pre
    have hlen := hT.len
    have cut : Sto ⟨K, mg, none⟩ H' ad (m'.take mu.length) := by
      have q := t0.cut (n := mu.length)
      rw [List.take_append_of_le_length (by omega), List.take_of_length_le (by omega)] at q
      exact q
    have sub : ∀ b ∈ ad, b ∈ ad ++ tt := fun b hb => List.mem_append_left _ hb
    exact o Ca x0 fs H' ad e0 ch.cut cut (fun z => nx (sub _ z)) hx0 hk (hds.sub sub)
  | bk g' m' => rw [hb] at o; exact o.elim
  | ct g' m' => rw [hb] at o; exact o.elim
  | stuck => rw [hb] at o; exact o.elim
end
end Dw
namespace Dw
open PySem PySem.Spec PyProof.Rows L2
/-! ### attributes -/
def lkF : List Str → List D → Str → Option D
  | k :: ks, d :: ds, f => if f == k then some d else lkF ks ds f
  | _, _, _ => none
def inF (ks : List Str) (f : Str) : Bool := ks.any fun k => f == k
section
variable {X : Cx} {c : Ct} {W : WX}
theorem lkF_ok {H : Hp} {ad : List Addr} {f : Str} : ∀ {fs : List (Str × V)} {ds : List D} {d : D}, Dns c H ad (fs.map (·.2)) ds → lkF (fs.map (·.1)) ds f = some d → ∃ v, fs.lookup f = some v ∧ Dn c H ad v d
  | [], _, _, _, e => by cases e
  | (k, v) :: r, _ :: ds, d, .cons a t, e => by
    have e' : (if f == k then some _ else lkF (r.map (·.1)) ds f) = some d := e
    rw [List.lookup_cons]
    cases h : f == k with
    | true => rw [h, if_pos rfl] at e'; cases e'; exact ⟨v, rfl, a⟩
    | false =>
      rw [h, if_neg Bool.false_ne_true] at e'
      exact lkF_ok t e'
theorem inF_no {f : Str} : ∀ {fs : List (Str × V)}, inF (fs.map (·.1)) f = false → fs.lookup f = none
  | [], _ => rfl
  | (k, v) :: r, e => by
    have e' : (f == k || inF (r.map (·.1)) f) = false := e
    rw [Bool.or_eq_false_iff] at e'
    rw [List.lookup_cons, e'.1]
    exact inF_no e'.2
/-- the fields of an instance of C, of data or of a cell -/
def insOf (C : Str) (mu : Mu) : Ar → Option (List Str × List D)
  | .d (.ins C' ks ds) => if C' = C then some (ks, ds) else none
  | .cel i => match mu[i]? with
    | some (.ins C' ks ds) => if C' = C then some (ks, ds) else none
    | _ => none
  | _ => none
theorem insOf_ok {H : Hp} {ad : List Addr} {mu : Mu} {C : Str} {v : V} {x : Ar} {ks : List Str} {ds : List D} (s : Sto c H ad mu) (a : An c H ad v x) (h : insOf C mu x = some (ks, ds)) : ∃ p Ca dx fs, v = .ref p ∧ c.mg C = some (.ref Ca) ∧ H p = some (.ins Ca dx fs) ∧ fs.map (·.1) = ks ∧ Dns c H ad (fs.map (·.2)) ds := by
  unfold insOf at h
  split at h
  · split at h
    · rename_i hC
      cases h
      subst hC
      cases d_of a with
      | ins n m e k t => exact ⟨_, _, _, _, rfl, m, e, k, t⟩
    · cases h
  · split at h
    · rename_i hm
      split at h
      · rename_i hC
        cases h
        subst hC
        obtain ⟨p, rfl, ep⟩ := cel_of a
        obtain ⟨p', ep', Ca, dx, fs, m, e, k, t⟩ := s.addr hm
        rw [ep] at ep'
        cases ep'
        exact ⟨p, Ca, dx, fs, rfl, m, e, k, t⟩
      · cases h
    · cases h
  · cases h
def mFld (C f : Str) (e : ME) : ME := fun g mu => (e g mu).bd fun x m => match insOf C m x with
  | some (ks, ds) => (match lkF ks ds f with
    | some d => .ok (.d d) m
    | none => .stuck)
  | none => .stuck
theorem de_fld {C : Str} {Ca : Addr} {e : Expr} {f : Str} {m : ME} {pos : Pos} (hm : c.mg C = some (.ref Ca)) (hC : Cls X.K Ca) (hf : NoAttr X.K Ca f) (he : PE X e (lft c W m)) (hb : attributeBase e f X.env (eval e X.env) = eval e X.env := by rfl) : PE X (.Attribute e f pos) (lft c W (mFld C f m)) :=
  (pe_fld he hb).weak fun σ H Q ⟨g, ad, mu, hS, hT, o⟩ => by
    refine ⟨g, ad, mu, hS, hT, OutG.imp (OutG.bd (rel := An c) o) fun v H1 ⟨ad1, mu1, x, ch1, t1, dx, o1⟩ => ?_⟩
    split at o1
    · rename_i ks ds hi
      split at o1
      · rename_i d hl
        obtain ⟨p, Ca', dx', fs, rfl, m', e', k, t⟩ := insOf_ok t1 dx hi
        have : Ca' = Ca := by rw [hm] at m'; cases m'; rfl
        subst this
        subst k
        obtain ⟨w, hw, dw⟩ := lkF_ok t hl
        exact ⟨p, Ca', dx', fs, w, rfl, e', hC, hf, hw, o1 w H1 ad1 (.refl _ _) t1 (.d dw)⟩
      · exact o1.elim
    · exact o1.elim
/-! self.f = e -/
def putK (f : Str) (d : D) : List Str → List D → Option (List Str × List D)
  | [], [] => some ([f], [d])
  | k :: ks, x :: ds => if k = f then some (k :: ks, d :: ds) else (match putK f d ks ds with
    | some (ks', ds') => some (k :: ks', x :: ds')
    | none => none)
  | _, _ => none
theorem putK_ok {H : Hp} {ad : List Addr} {f : Str} {v : V} {d : D} (a : Dn c H ad v d) : ∀ {fs : List (Str × V)} {ds ds' : List D} {ks' : List Str}, Dns c H ad (fs.map (·.2)) ds → putK f d (fs.map (·.1)) ds = some (ks', ds') → (putF f v fs).map (·.1) = ks' ∧ Dns c H ad ((putF f v fs).map (·.2)) ds'
  | [], _, _, _, .nil, e => by cases e; exact ⟨rfl, .cons a .nil⟩
  | (k, w) :: r, x :: ds, ds', ks', .cons b t, e => by
    have e' : (if k = f then some (k :: r.map (·.1), d :: ds) else (match putK f d (r.map (·.1)) ds with
      | some (ks', ds') => some (k :: ks', x :: ds')
      | none => none)) = some (ks', ds') := e
    by_cases h : k = f
    · rw [if_pos h] at e'
      cases e'
      unfold putF
      rw [if_pos h]
      exact ⟨rfl, .cons a t⟩
    · rw [if_neg h] at e'
      split at e'
      · rename_i ks2 ds2 h2
        cases e'
        obtain ⟨q1, q2⟩ := putK_ok a t h2
        unfold putF
        rw [if_neg h]
        exact ⟨by rw [List.map_cons, q1], .cons b q2⟩
      · cases e'
def mSetF (C f : Str) (e o : ME) : MS := fun g mu => (e g mu).st g fun x m => (o g m).st g fun ov m1 => match x, ov with
  | .d x, .cel i => (match m1[i]? with
    | some (.ins C' ks ds) => if C' = C ∧ ks.length < 1000 then (match putK f x ks ds with
      | some (ks', ds') => .nx g (m1.set i (.ins C ks' ds'))
      | none => .stuck) else .stuck
    | _ => .stuck)
  | _, _ => .stuck
theorem ds_setF {C : Str} {Ca : Addr} {eo e : Expr} {f : Str} {m mo : ME} {pos pos' : Pos} (hm : c.mg C = some (.ref Ca)) (hC : Cls X.K Ca) (hf : NoAttr X.K Ca f) (he : PE X e (lft c W m)) (ho : PE X eo (lft c W mo)) (hs : swapsWith e (some (.Attribute eo f pos')) pos.line X.env = pure false := by rfl) : PS X (.Assign [.Attribute eo f pos'] e pos) (lftS c W (mSetF C f m mo)) :=
  (ps_fld ho he hs).weak fun D σ H ⟨g, ad, mu, hS, hT, o⟩ => by
    refine ⟨g, ad, mu, hS, hT, OutG.imp (OutS.bd (rel := An c) hS o) fun v H1 ⟨ad1, mu1, x, ch1, t1, dx, o1⟩ => ?_⟩
    refine ⟨g, ad1, mu1, hS.ch ch1, t1, OutG.imp (OutS.bd (rel := An c) (hS.ch ch1) o1) fun ov H2 ⟨ad2, mu2, xo, ch2, t2, dxo, o2⟩ => ?_⟩
    split at o2
    · rename_i x i
      split at o2
      · rename_i C' ks ds hcl
        split at o2
        · rename_i hcc
          split at o2
          · rename_i ks' ds' hp
            obtain ⟨hc1, hc2⟩ := hcc
            subst hc1
            obtain ⟨p, rfl, ep⟩ := cel_of dxo
            obtain ⟨p', ep', Ca', dx', fs, m', e', k, t⟩ := t2.addr hcl
            rw [ep] at ep'
            cases ep'
            have : Ca' = Ca := by rw [hm] at m'; cases m'; rfl
            subst this
            subst k
            have hin : p ∈ ad2 := List.mem_of_getElem? ep
            have a2 := d_of (dx.ch ch2)
            obtain ⟨q1, q2⟩ := putK_ok a2 t hp
            refine ⟨p, Ca', dx', fs, rfl, e', hC, hf, by simpa using hc2, o2 σ _ ad2 (.put hin) (((hS.ch ch1).ch ch2).ch (.put hin)) (t2.put ep ⟨Ca', dx', _, m', upd_same, q1, q2.ch (.put hin)⟩)⟩
          · exact o2.elim
        · exact o2.elim
      · exact o2.elim
    · exact o2.elim

/-! ### C(..) -/
def mMake (C : Str) (n : Nat) (F : List Ar → Mu → R Ar) (a : MA) : ME := fun g mu => (a g mu).bd fun xs m => if xs.length = n then (match F (.cel m.length :: xs) (m ++ [.ins C [] []]) with
  | .ok (.d .non) m' => (match m'[m.length]? with
    | some (.ins C' ks ds) => .ok (.d (.ins C' ks ds)) (m'.take m.length)
    | _ => .stuck)
  | .exc C ks ds m' => .exc C ks ds (m'.take m.length)
  | _ => .stuck) else .stuck
/-- C(..) in a body whose raised errors are wished for at the slots -/
def tMakeS (C : Addr) (sp : Sp) (E : L2.St → XK) (t : TA) : TE := fun σ H Q => t σ H fun vs H1 => ∀ x dx, H1 x = none → H1 dx = none → dx ≠ x →
  sp (.ref x :: vs) (upd (upd H1 dx (.own x)) x (.ins C dx [])) (fun v H2 => v = .non ∧ Q (.ref x) H2) (E σ)
theorem pe_makeS {CX : CXT} {k : Nat} {f C : Addr} {fd : FuncData} {ps : List Str} {sp : Sp} {E : L2.St → XK} {x : Str} {p pos : Pos} {e : Expr} {es : List Expr} {t : TA} (M : Mk X.K C f) (G : FnOk X.prog X.w X.K X.mg X.base CX k f fd ps sp) (hr : Room (k + 1) X.A) (hg : Gl X x) (hm : X.mg x = some (.ref C)) (hb : Binds X.K fd ps []) (hx : ∀ σ, PassesAt CX X σ (E σ))
    (ha : PA X (e :: es) t) (hdb : (x == ("__debug__" : Str)) = false := by decide) (he : starEach (e :: es) X.env = (false, eval e X.env) :: starEach es X.env := by rfl) (hpl : (backTo pos (starEach es X.env)).any (·.1) = false := by rfl) :
    PE X (.Call (.Name x p) (e :: es) [] pos) (tMakeS C sp E t) := by
  refine ⟨fun pins s σ H Q I h => ?_⟩
  refine wpAny_Call_Name_kw (ld_glob I hg hm ?_ hdb)
  refine PySem.W.callWith_K (h₀ := X.base) I.ok.mod.kin M.kp (thn (ha.run pos pins s σ H _ I h) fun us s1 ⟨vs, H1, I1, r, q⟩ => ⟨I1.kIn, ?_⟩) he hpl
  have hq := q (s1.heap.objs.size + 1) s1.heap.objs.size (I1.hok.fresh (Nat.le_succ _)) (I1.hok.fresh (Nat.le_refl _)) (Nat.ne_of_lt (Nat.lt_succ_self _))
  have I2 := Inv.made (C := C) I1
  have r2 : Vals (V.ref (s1.heap.objs.size + 1) :: vs) (Value.ref (s1.heap.objs.size + 1) :: us) := .cons rfl r
  have hl : (Value.ref (s1.heap.objs.size + 1) :: us ++ ([] : List Value)).length = ps.length := by
    have q2 := r2.length
    rw [G.len _ _ _ _ hq] at q2
    rw [List.append_nil]
    exact q2.symm
  have hbb := hb _ (Value.ref (s1.heap.objs.size + 1) :: us) I2.kIn hl
  rw [List.append_nil] at hbb
  refine wpAny_call (make_map (f := f) I1.kIn M.makes M.init (beq_iff_eq.mp M.fn) (codeAny_mono (G.run _ X.stack _ _ ⟨Value.ref (s1.heap.objs.size + 1) :: us, []⟩ (Value.ref (s1.heap.objs.size + 1) :: us) _ _ (E σ) (hr.make C us [])
    (I2.env0.make C us []) hbb r2 hq) fun r3 s' hq' => ?_))
  cases r3 with
  | error u => exact hx σ pins _ _ u s' I2 hq'
  | ok fl =>
    cases fl with
    | ret u =>
      obtain ⟨v, H', I3, rv, ev, q3⟩ := I2.after hq'
      subst ev
      exact ⟨rv, ⟨V.ref (s1.heap.objs.size + 1), H', I3, rfl, q3⟩⟩
    | next => exact False.elim hq'
    | brk => exact False.elim hq'
    | cont => exact False.elim hq'
theorem de_make {C : Str} {Ca f : Addr} {k n : Nat} {fd : FuncData} {ps : List Str} {F : List Ar → Mu → R Ar} {p pos : Pos} {e : Expr} {es : List Expr} {ma : MA} (M : Mk X.K Ca f) (G : FnOk X.prog X.w X.K X.mg X.base (L2.CX X.prog X.w) k f fd ps (spOf c (n + 1) F)) (hr : Room (k + 1) X.A) (hg : Gl X C) (hm : X.mg C = some (.ref Ca)) (hmc : c.mg C = some (.ref Ca)) (hb : Binds X.K fd ps []) (tk : Takes X W)
    (ha : PA X (e :: es) (lftA c W ma)) (hdb : (C == ("__debug__" : Str)) = false := by decide) (he : starEach (e :: es) X.env = (false, eval e X.env) :: starEach es X.env := by rfl) (hpl : (backTo pos (starEach es X.env)).any (·.1) = false := by rfl) :
    PE X (.Call (.Name C p) (e :: es) [] pos) (lft c W (mMake C n F ma)) :=
  (pe_makeS (E := WE W) M G hr hg hm hb (fun σ => passAt tk σ) ha hdb he hpl).weak fun σ H Q ⟨g, ad, mu, hS, hT, o⟩ => by
    refine ⟨g, ad, mu, hS, hT, OutG.imp (OutG.bd (rel := Ans c) o) fun vs H1 ⟨ad1, mu1, xs, ch1, t1, dx, o1⟩ x dd hx hdd hne => ?_⟩
    split at o1
    · rename_i hl
      have hx2 : (upd H1 dd (.own x)) x = none := by rw [upd_ne (Ne.symm hne)]; exact hx
      have chd : Ch H1 ad1 (upd H1 dd (.own x)) ad1 := .ex (.new hdd)
      have td := t1.ex (H' := upd H1 dd (.own x)) (.new hdd)
      have chx : Ch H1 ad1 (upd (upd H1 dd (.own x)) x (.ins Ca dd [])) (ad1 ++ [x]) := chd.trans (.new hx2)
      have tx : Sto c (upd (upd H1 dd (.own x)) x (.ins Ca dd [])) (ad1 ++ [x]) (mu1 ++ [.ins C [] []]) := td.new (cl := .ins C [] []) hx2 ⟨Ca, dd, [], hmc, upd_same, rfl, .nil⟩
      have hlen := t1.len
      refine ⟨by rw [List.length_cons, dx.length, hl], .cel mu1.length :: xs, ad1 ++ [x], _, .cons (.cel (by rw [← hlen]; simp)) (dx.ch chx), tx, ?_⟩
      cases hF : F (.cel mu1.length :: xs) (mu1 ++ [.ins C [] []]) with
      | stuck => rw [hF] at o1; exact o1.elim
      | exc C' ks ds m' =>
        rw [hF] at o1
        intro Ca' x' fs H' ad' e' ch' t' nx hx' hk hds
        have chA := chx.trans ch'
        obtain ⟨tt, rfl, _⟩ := chA.pre
        have cut : Sto c H' ad1 (m'.take mu1.length) := by
          have q := t'.cut (n := mu1.length)
          rw [List.take_append_of_le_length (by omega), List.take_of_length_le (by omega)] at q
          exact q
        have sub : ∀ b ∈ ad1, b ∈ ad1 ++ tt := fun b hb => List.mem_append_left _ hb
        exact o1 Ca' x' fs H' ad1 e' chA.cut cut (fun z => nx (sub _ z)) hx' hk (hds.sub sub)
      | ok a m' =>
        rw [hF] at o1
        intro v H' ad' ch' t' av
        cases a with
        | cel i => exact o1.elim
        | scr i => exact o1.elim
        | exn _ _ => exact o1.elim
        | d d0 =>
          cases d0 with
          | non =>
            simp only at o1
            split at o1
            · rename_i C' ks ds hcl
              have ev : v = .non := by cases d_of av; rfl
              subst ev
              refine ⟨rfl, ?_⟩
              have hDi0 : (ad1 ++ [x])[mu1.length]? = some x := by
                rw [List.getElem?_append_right (by omega), hlen]; simp
              have chA := chx.trans ch'
              obtain ⟨t2, ht2, _⟩ := ch'.pre
              have hDi : ad'[mu1.length]? = some x := by
                rw [ht2, List.getElem?_append_left (by simp; omega)]
                exact hDi0
              obtain ⟨tt, rfl, _⟩ := chA.pre
              obtain ⟨p', ep', Ca', dx', fs, m'', e'', k'', t''⟩ := t'.addr hcl
              rw [hDi] at ep'
              cases ep'
              have cut : Sto c H' ad1 (m'.take mu1.length) := by
                have q := t'.cut (n := mu1.length)
                rw [List.take_append_of_le_length (by omega), List.take_of_length_le (by omega)] at q
                exact q
              have sub : ∀ b ∈ ad1, b ∈ ad1 ++ tt := fun b hb => List.mem_append_left _ hb
              exact o1 _ H' ad1 chA.cut cut (.d (.ins (t1.free hx) m'' e'' k'' (t''.sub sub)))
            · exact o1.elim
          | bl _ => exact o1.elim
          | int _ => exact o1.elim
          | str _ => exact o1.elim
          | tup _ => exact o1.elim
          | lst _ => exact o1.elim
          | ins _ _ _ => exact o1.elim
          | exo _ _ _ => exact o1.elim
    · exact o1.elim

/-! ### o.m(..) -/
def mMeth (C m : Str) (n : Nat) (F : List Ar → Mu → R Ar) (o : ME) (a : MA) : ME := fun g mu => (o g mu).bd fun ov m1 => match insOf C m1 ov with
  | some (ks, _) => if inF ks m = false then (a g m1).bd fun xs m2 => (if xs.length = n then F (ov :: xs) m2 else .stuck) else .stuck
  | none => .stuck
def tMethSD (C : Addr) (m : Str) (sp : Sp) (E : L2.St → XK) (ta : TE) (t : TA) : TE := fun σ H Q => ta σ H fun x H1 => ∃ a dx fs, x = .ref a ∧ H1 a = some (.ins C dx fs) ∧ fs.lookup m = none ∧
  t σ H1 fun vs H2 => sp (x :: vs) H2 Q (E σ)
theorem pe_methSD {CX : CXT} {k : Nat} {f C : Addr} {fd : FuncData} {ps : List Str} {sp : Sp} {E : L2.St → XK} {m : Str} {pos apos : Pos} {e o : Expr} {es : List Expr} {ta : TE} {t : TA} {pl : Sem Bool} (he : PE X o ta) (hC : Cls X.K C) (hm : Meth X.K C m f) (G : FnOk X.prog X.w X.K X.mg X.base CX k f fd ps sp) (hr : Room k X.A) (hb : Binds X.K fd ps []) (hx : ∀ σ, PassesAt CX X σ (E σ)) (ha : PA X (e :: es) t)
    (hst : starEach (e :: es) X.env = (false, eval e X.env) :: starEach es X.env := by rfl) (hpl : (backTo pos (starEach es X.env)).any (·.1) = false := by rfl)
    (ht : eval (.Call (.Attribute o m apos) (e :: es) [] pos) X.env = (do
      let ov ← eval o X.env
      standAt apos.atName
      let (f, first) ← holding [ov] (getMethod ov m pl)
      callWith pos f first (backTo pos (starEach (e :: es) X.env)) (backToKw pos (keywordEach [] X.env))) := by rfl) :
    PE X (.Call (.Attribute o m apos) (e :: es) [] pos) (tMethSD C m sp E ta t) := by
  refine ⟨fun pins s σ H Q I h => ?_⟩
  refine PySem.W.methodCall_KW (pl := pl) (thn (he.run pins s σ H _ I h) fun u s1 ⟨x, H1, I1, rx, a, dx, fs, ex, ea, l, q⟩ => ?_) ht
  subst ex
  obtain rfl : u = Value.ref a := rx
  refine getmeth_ok I1 ea hC hm l ?_
  refine PySem.W.callWith_K (first := [.ref a]) (h₀ := X.base) I.ok.mod.kin hm.kp (thn (ha.run pos pins s1 σ H1 _ I1 q) fun us s2 ⟨vs, H2, I2, r, q2⟩ => ⟨I2.kIn, ?_⟩) hst hpl
  exact run_fnS (us := .ref a :: us) (vs := .ref a :: vs) G hr hb (hx σ) I2 (.cons rfl r) q2
theorem de_meth {C m : Str} {Ca f : Addr} {k n : Nat} {fd : FuncData} {ps : List Str} {F : List Ar → Mu → R Ar} {pos apos : Pos} {e o : Expr} {es : List Expr} {mo : ME} {ma : MA} {pl : Sem Bool} (hmc : c.mg C = some (.ref Ca)) (hC : Cls X.K Ca) (hm : Meth X.K Ca m f) (G : FnOk X.prog X.w X.K X.mg X.base (L2.CX X.prog X.w) k f fd ps (spOf c (n + 1) F)) (hr : Room k X.A) (hb : Binds X.K fd ps []) (tk : Takes X W)
    (ho : PE X o (lft c W mo)) (ha : PA X (e :: es) (lftA c W ma))
    (hst : starEach (e :: es) X.env = (false, eval e X.env) :: starEach es X.env := by rfl) (hpl : (backTo pos (starEach es X.env)).any (·.1) = false := by rfl)
    (ht : eval (.Call (.Attribute o m apos) (e :: es) [] pos) X.env = (do
      let ov ← eval o X.env
      standAt apos.atName
      let (f, first) ← holding [ov] (getMethod ov m pl)
      callWith pos f first (backTo pos (starEach (e :: es) X.env)) (backToKw pos (keywordEach [] X.env))) := by rfl) :
    PE X (.Call (.Attribute o m apos) (e :: es) [] pos) (lft c W (mMeth C m n F mo ma)) :=
  (pe_methSD (E := WE W) ho hC hm G hr hb (fun σ => passAt tk σ) ha hst hpl ht).weak fun σ H Q ⟨g, ad, mu, hS, hT, o⟩ => by
    refine ⟨g, ad, mu, hS, hT, OutG.imp (OutG.bd (rel := An c) o) fun v H1 ⟨ad1, mu1, x, ch1, t1, dx, o1⟩ => ?_⟩
    split at o1
    · rename_i ks ds hi
      split at o1
      · rename_i hn
        obtain ⟨p, Ca', dx', fs, rfl, m', e', k, t⟩ := insOf_ok t1 dx hi
        have : Ca' = Ca := by rw [hmc] at m'; cases m'; rfl
        subst this
        subst k
        refine ⟨p, dx', fs, rfl, e', inF_no hn, g, ad1, mu1, hS.ch ch1, t1, OutG.imp (OutG.bd (rel := Ans c) o1) fun vs H2 ⟨ad2, mu2, xs, ch2, t2, dxs, o2⟩ => ?_⟩
        split at o2
        · rename_i hl
          exact ⟨by rw [List.length_cons, dxs.length, hl], x :: xs, ad2, mu2, .cons (dx.ch ch2) dxs, t2, OutG.wis o2 fun cls d H' h => h⟩
        · exact o2.elim
      · exact o1.elim
    · exact o1.elim
end
end Dw
namespace Dw
open PySem PySem.Spec PyProof.Rows L2
/-! ### own errors with one field, set by __init__ -/
def spX (C : Addr) (f : Str) : Sp := fun vs H Q _ => ∃ (a : Addr) (v : V), vs = [.ref a, v] ∧ H a = some (exo a C none) ∧ ∀ dx, H dx = none → dx ≠ a → Q .non (upd (upd H dx (exd dx [(f, v)])) a (exo a C (some dx)))
/-- what is known of such a class -/
structure XC (K : PySem.W.Frag) (mg : Str → Option Value) (P : Program) (w : World) (base : Heap) (C f : Str) : Prop where
  ex : ∃ (Ca fI : Addr) (fd : FuncData), mg C = some (.ref Ca) ∧ OexC K Ca ∧ PySem.W.findIn K (.ref Ca) "__init__" = some (some (.ref fI)) ∧ PySem.W.typeIn K (.ref fI) = some (.type "function") ∧
    FnOk P w K mg base (L2.CX P w) 1 fI fd ["self", f] (spX Ca f) ∧ Binds K fd ["self", f] []
section
variable {P : Program} {w : World} {K : PySem.W.Frag} {mg : Str → Option Value} {base : Heap}
theorem xinit {qual f : Str} {st : Stmt} {fI Ca : Addr} {fd : FuncData} (F : Fun K "__init__" qual st fI fd) (S : FnScope ["self", f] ["self", f] (defScope st)) (T : OexC K Ca) (no : PySem.W.findIn K (.ref Ca) f = some none)
    (hb : ∀ (cdv : Value) (A : Around) (outer : List Env) (s : Shared) (H : Hp) (E : XK), PSs (cxOf (L2.CX P w) P w K mg base ["self", f] qual (defScope st) fI cdv A outer s H E) (defBody st) (tOst K f (tVar 0) (tVar 1))) :
    FnOk P w K mg base (L2.CX P w) 1 fI fd ["self", f] (spX Ca f) := by
  refine F.okX S (fun vs H Q E h => ?_) (fun cdv A outer s H vs Q E hr h => ⟨_, hb cdv A outer s H E, ?_⟩)
  · obtain ⟨a, v, rfl, _⟩ := h
    rfl
  · obtain ⟨a, v, rfl, ha, q⟩ := h
    exact ⟨v, rfl, _, rfl, a, Ca, rfl, T, no, .inl ⟨ha, fun dx h1 h2 => q dx h1 h2⟩⟩
end

section
variable {X : Cx} {c : Ct} {W : WX}
def mRaise (C f : Str) (a : MA) : MS := fun g mu => (a g mu).st g fun xs m => match xs with
  | [.d x] => .exc C [f] [x] g m
  | _ => .stuck
theorem raise_heap {H1 : Hp} {a dx Ca : Addr} {f : Str} {v : V} (ha : H1 a = none) (hd : dx ≠ a) :
    upd (del (upd (upd (upd H1 a (exo a Ca none)) dx (exd dx [(f, v)])) a (exo a Ca (some dx))) a) dx (.xd [(f, v)]) = upd H1 dx (.xd [(f, v)]) := by
  funext b
  by_cases h1 : b = dx
  · rw [h1, upd_same, upd_same]
  · rw [upd_ne h1, upd_ne h1]
    by_cases h2 : b = a
    · rw [h2, del_same, ha]
    · rw [del_ne h2, upd_ne h2, upd_ne h1, upd_ne h2]
theorem ds_raise {C f : Str} {Ca : Addr} {e : Expr} {ma : MA} {p pos pos2 : Pos} (hc : X.calm = true) (T : XC X.K X.mg X.prog X.w X.base C f) (hmc : X.mg C = some (.ref Ca)) (hcc : c.mg C = some (.ref Ca)) (hr : Room 2 X.A) (hg : Gl X C) (tk : Takes X W) (ha : PA X [e] (lftA c W ma)) (hdb : (C == ("__debug__" : Str)) = false := by decide) (he : starEach (e :: []) X.env = (false, eval e X.env) :: starEach [] X.env := by rfl) (hpl : (backTo pos (starEach [] X.env)).any (·.1) = false := by rfl) :
    PS X (.Raise (some (.Call (.Name C p) [e] [] pos)) none pos2) (lftS c W (mRaise C f ma)) := by
  obtain ⟨Ca', fI, fd, hm, O, hi, ht, G, hb⟩ := T.ex
  have : Ca' = Ca := by rw [hmc] at hm; cases hm; rfl
  subst this
  refine (ps_raise hc tk (pmk_oex (p := p) (dvs := []) O hi ht G hr hb .nil passL hg hm ha hdb he hpl)).weak fun D σ H ⟨g, ad, mu, hS, hT, o⟩ => ?_
  refine ⟨g, ad, mu, hS, hT, OutG.imp (OutS.bd (rel := Ans c) hS o) fun vs H1 ⟨ad1, mu1, xs, ch1, t1, dx, o1⟩ => ?_⟩
  split at o1
  · obtain ⟨v, rfl, b⟩ := dx.one
    refine ⟨(by simp : (1 : Nat) ≤ 1000), fun a ha1 => ⟨a, v, rfl, upd_same, fun d h1 h2 => ?_⟩⟩
    rw [upd_ne h2] at h1
    refine ⟨rfl, d, [(f, v)], upd_same, ?_, h1, ?_⟩
    · rw [upd_ne h2, upd_same]
    · rw [raise_heap ha1 h2]
      exact o1 Ca' d [(f, v)] σ _ ad1 hcc (.ex (.new h1)) ((hS.ch ch1).ch (.ex (.new h1))) (t1.ex (.new h1)) (t1.free h1) upd_same rfl (.cons ((d_of b).ch (.ex (.new h1))) .nil)
  · exact o1.elim

/-! ### try: several clauses, each with or without a name -/
abbrev Suite := Addr → Value → Option Addr → TS
/-- the slot of a clause's name is empty behind its suite -/
def gone (D : Ends) : Option Nat → Ends
  | none => D
  | some i => { nx := fun σ H => D.nx (σ.set i none) H, rt := D.rt, bk := fun σ H => D.bk (σ.set i none) H, ct := fun σ H => D.ct (σ.set i none) H }
def held (σ : L2.St) (a : Addr) : Option Nat → L2.St
  | none => σ
  | some i => σ.set i (some (.ref a))
def wCl (K : PySem.W.Frag) (Wout : WX) (D : Ends) : List (Value × Option Nat × Suite) → WX
  | [] => Wout
  | (cv, i, ts) :: r => fun cls d σ H => ∃ b, PySem.W.exmOne K cls cv = some b ∧ (b = true → ∀ a, H a = none → ts a cls d (gone D i) (held σ a i) H) ∧ (b = false → wCl K Wout D r cls d σ H)
inductive ClOk (X : Cx) : List ExceptHandler → List (Value × Option Nat × Suite) → Prop
  | nil : ClOk X [] []
  | bare {x : Str} {cv : Value} {ts : Suite} {b0 : Stmt} {suite : List Stmt} {np pos' : Pos} {hds : List ExceptHandler} {l : List (Value × Option Nat × Suite)} (hc : Names X x cv)
      (hsu : ∀ (a : Addr) (oe : Obj) (cls : Value) (d : Option Addr) (pn : List (Addr × Obj)), Zc cls d oe → (∃ vs, oe.data = .fields vs) → PSs (X.suite a ((a, oe) :: pn)) (b0 :: suite) (ts a cls d)) (r : ClOk X hds l) :
      ClOk X (.ExceptHandler (some (.Name x np)) none (b0 :: suite) pos' :: hds) ((cv, none, ts) :: l)
  | as_ {x n : Str} {i : Nat} {cv : Value} {ts : Suite} {b0 : Stmt} {suite : List Stmt} {np pos' : Pos} {hds : List ExceptHandler} {l : List (Value × Option Nat × Suite)} (hc : Names X x cv) (hi : X.N[i]? = some n) (hln : X.env.kindOf n = some .local)
      (hsu : ∀ (a : Addr) (oe : Obj) (cls : Value) (d : Option Addr) (pn : List (Addr × Obj)), Zc cls d oe → (∃ vs, oe.data = .fields vs) → PSs (X.suite a ((a, oe) :: pn)) (b0 :: suite) (ts a cls d)) (r : ClOk X hds l) :
      ClOk X (.ExceptHandler (some (.Name x np)) (some n) (b0 :: suite) pos' :: hds) ((cv, some i, ts) :: l)
theorem ps_tryN {body : List Stmt} {h0 : ExceptHandler} {hds : List ExceptHandler} {l : List (Value × Option Nat × Suite)} {pos : Pos} {tb : WX → TS} {Wout : WX} (hs : X.stack = X.env :: X.outer) (hf : X.env.frame = some X.env.locals) (hN : X.N.Nodup) (tk : Takes X Wout)
    (hb : ∀ (W : WX) (pn : List (Addr × Obj)) (xe : Value → Shared → Prop), Takes (X.tr pn xe) W → PassesOwn (model X.prog X.w) X.A X.env xe → PSs (X.tr pn xe) body (tb W))
    (hh : ClOk X (h0 :: hds) l) : PS X (.Try body (h0 :: hds) [] [] pos) (fun D σ H => tb (wCl X.K Wout D l) D σ H) := by
  refine ⟨fun pins s σ H D I h => ?_⟩
  have ok := I.ok
  have hfr : X.A.frames = some (X.env :: X.outer) := by rw [ok.frames, hs]
  refine wpAny_Try_except ?_
  refine wpAny_mono ((hb (wCl X.K Wout D l) (X.pn ++ pins) (fun e t1 => wpAny (model X.prog X.w) X.A (noteFrame e X.env) (fun _ t2 => wpAny (model X.prog X.w) X.A (setFlight e none) (fun _ t3 =>
    wpAny (model X.prog X.w) X.A (handleBy e X.env (h0 :: hds)) (SP X pins D) X.xe t3) X.xe t2) X.xe t1) (fun u s' xx => ?_) PassesOwn.looking).run [] s σ H D (I.toTry _) h) (fun f s1 hsp => ?_) (fun e s1 he => he)
  · obtain ⟨a, B, sI, pins', σ', H', cls, d, rfl, J', nb, up, sky, na, os, ag, w⟩ := xx
    have J : Inv X pins σ' H' sI := J'.ofTry ok
    have skyE : Sky B (X.env :: X.outer) a (Zc cls d) X.env.locals s'.heap := by rw [← hs]; exact sky
    show wpAny (model X.prog X.w) X.A (noteFrame (.ref a) X.env) _ _ _
    refine Sky.land Zc.steady hfr hf skyE fun h3 fl3 up3 => ?_
    have J3 : Inv X pins σ' H' { s' with heap := h3 } := J.landed nb fl3.1 (up.trans up3) os ag
    obtain ⟨oe3, vs3, he3, hz3, hd3⟩ := fl3.there
    have nfr : a ∉ frs (X.env :: X.outer) := fun hm => by
      obtain ⟨_, o', e', hnf⟩ := fl3.2.2.1.mem hm
      rw [he3] at e'
      cases e'
      exact hnf _ hd3
    have nL : a ≠ X.env.locals := fun z => nfr (List.mem_filterMap.mpr ⟨X.env, List.mem_cons_self, by rw [hf, z]⟩)
    have nF : a ∉ X.fs := fun hm => by
      obtain ⟨e, he, q⟩ := List.mem_filterMap.mp hm
      exact nfr (List.mem_filterMap.mpr ⟨e, List.mem_cons_of_mem _ he, q⟩)
    have S3 := J3.suite he3 hd3 na nL nF
    have LT : PySem.W.Looks (model X.prog X.w) h3 (typeOf (.ref a)) cls := fun A Q E s k q => wpAny_typeOf_ref (k _ _ he3) (by rw [hz3.1]; exact q)
    have test : ∀ {x : Str} {np : Pos} {cv : Value} {Q : Value → Shared → Prop} {E : Value → Shared → Prop}, Names X x cv → Q cv { s' with heap := h3 } → wpAny (model X.prog X.w) (X.A.mark (some (.ref a))) (eval (.Name x np) X.env) Q E { s' with heap := h3 } := fun {x np cv Q E} hc q => by
      obtain ⟨hg, hdbg, hm | ⟨hm, hv, hnn⟩⟩ := hc
      · exact ld_glob (X := X.suite a ((a, oe3) :: (X.pn ++ pins))) S3 hg hm q hdbg
      · exact ld_blt (X := X.suite a ((a, oe3) :: (X.pn ++ pins))) S3 hg hm hv q hnn hdbg
    have go : ∀ {hds' : List ExceptHandler} {l' : List (Value × Option Nat × Suite)}, ClOk X hds' l' → wCl X.K Wout D l' cls d σ' H' →
        wpAny (model X.prog X.w) X.A (handleBy (.ref a) X.env hds') (SP X pins D) X.xe { s' with heap := h3 } := by
      intro hds' l' hk
      induction hk with
      | nil =>
        intro w
        refine wpAny_handleBy_nil ?_
        obtain ⟨k1, k2, k3, oe, vs, T, oT, ts', he, hz, hd, h1, hr⟩ := id fl3
        unfold PySem.passOn
        refine wpAny_bind (wpAny_field he hd h1 ?_)
        rw [if_neg (show ¬ ((Value.ref T == Value.none) = true) from by simp)]
        have fin : wpAny (model X.prog X.w) X.A (setFlight (.ref a) X.env.frame) (fun _ s4 => wpAny (model X.prog X.w) X.A (throw (.ref a) : Sem Flow) (SP X pins D) X.xe s4) X.xe { s' with heap := h3 } := by
          rw [hf]
          refine HandSPX.setFlight_upZ fl3 fun h4 hh4 up4 => wpAny_throw (tk _ _ ?_)
          exact ⟨a, B, sI, pins, σ', H', cls, d, rfl, J, nb, (up.trans up3).trans up4, .inr (.inr (by rw [hs]; exact hh4)), na, os, ag, w⟩
        first
          | exact wpAny_bind (wpAny_pure (wpAny_bind fin))
          | exact wpAny_bind fin
      | @bare x cv ts b0 suite np pos' hds2 l2 hc hsu r ih =>
        intro w
        obtain ⟨b, hb1, hyes, hno⟩ := w
        refine wpAny_handleBy_cons (codeAny_handlers_test ?_) (by intro q; cases q)
        have LM := PySem.W.exm_one (M := model X.prog X.w) (J3.kIn) LT hb1
        refine test hc (LM.here ?_)
        cases b with
        | true =>
          refine codeAny_handlers_suite ?_
          refine HandSPX.lands_againZ fl3 fun h4 fl4 up4 => ?_
          have J4 : Inv X pins σ' H' { s' with heap := h4 } := J.landed nb fl4.1 ((up.trans up3).trans up4) os ag
          obtain ⟨oe4, vs4, he4, hz4, hd4⟩ := fl4.there
          have S4 := J4.suite he4 hd4 na nL nF
          refine wpAny_mono ((hsu a oe4 cls d (X.pn ++ pins) hz4 ⟨_, hd4⟩).run [] _ _ H' _ S4 (hyes rfl a na)) (fun f s6 hsp => ?_) (fun _ _ z => False.elim z)
          cases f with
          | next => obtain ⟨σ6, H6, S6, q6⟩ := hsp; exact ⟨_, _, S6.unsuite ok, q6⟩
          | brk => obtain ⟨σ6, H6, S6, q6⟩ := hsp; exact ⟨_, _, S6.unsuite ok, q6⟩
          | cont => obtain ⟨σ6, H6, S6, q6⟩ := hsp; exact ⟨_, _, S6.unsuite ok, q6⟩
          | ret u => obtain ⟨v6, σ6, H6, S6, r6, q6⟩ := hsp; exact ⟨_, _, _, S6.unsuite ok, r6, q6⟩
        | false =>
          show wpAny _ X.A (handleBy (.ref a) X.env hds2) _ _ _
          exact ih (hno rfl)
      | @as_ x n i cv ts b0 suite np pos' hds2 l2 hc hi hln hsu r ih =>
        intro w
        obtain ⟨b, hb1, hyes, hno⟩ := w
        refine wpAny_handleBy_cons (codeAny_handlers_test ?_) (by intro q; cases q)
        have LM := PySem.W.exm_one (M := model X.prog X.w) (J3.kIn) LT hb1
        refine test hc (LM.here ?_)
        cases b with
        | true =>
          refine codeAny_handlers_suite_as ?_
          refine HandSPX.lands_againZ fl3 fun h4 fl4 up4 => ?_
          have J4 : Inv X pins σ' H' { s' with heap := h4 } := J.landed nb fl4.1 ((up.trans up3).trans up4) os ag
          obtain ⟨oe4, vs4, he4, hz4, hd4⟩ := fl4.there
          have S4 := J4.suite he4 hd4 na nL nF
          refine store_ok (X := X.suite a ((a, oe4) :: (X.pn ++ pins))) (v := .ref a) S4 hN hi (.inl hln) rfl (fun s5 S5 => ?_) (.inr hln)
          refine wpAny_mono ((hsu a oe4 cls d (X.pn ++ pins) hz4 ⟨_, hd4⟩).run [] s5 _ H' _ S5 (hyes rfl a na)) (fun f s6 hsp => ?_) (fun _ _ z => False.elim z)
          have endA : ∀ {σ6 : L2.St} {H6 : Hp} {Q : Shared → Prop}, Inv (X.suite a ((a, oe4) :: (X.pn ++ pins))) [] σ6 H6 s6 → (∀ s7, Inv X pins (σ6.set i none) H6 s7 → Q s7) →
              wpAny (model X.prog X.w) X.A (do bindName X.env n .none; unbindBehindTheSuite X.env n pos') (fun _ s7 => Q s7) X.xe s6 := fun {σ6 H6 Q} S6 hq => gone_ok (S6.unsuite ok) hN hi hln hq
          cases f with
          | next => obtain ⟨σ6, H6, S6, q6⟩ := hsp; exact endA S6 fun s7 J7 => ⟨_, _, J7, q6⟩
          | brk => obtain ⟨σ6, H6, S6, q6⟩ := hsp; exact endA S6 fun s7 J7 => ⟨_, _, J7, q6⟩
          | cont => obtain ⟨σ6, H6, S6, q6⟩ := hsp; exact endA S6 fun s7 J7 => ⟨_, _, J7, q6⟩
          | ret u => obtain ⟨v6, σ6, H6, S6, r6, q6⟩ := hsp; exact endA S6 fun s7 J7 => ⟨_, _, _, J7, r6, q6⟩
        | false =>
          show wpAny _ X.A (handleBy (.ref a) X.env hds2) _ _ _
          exact ih (hno rfl)
    exact go hh w
  · cases f with
    | next => obtain ⟨σ', H', J', q⟩ := hsp; exact wpAny_execs_nil ⟨σ', H', J'.ofTry ok, q⟩
    | brk => obtain ⟨σ', H', J', q⟩ := hsp; exact ⟨σ', H', J'.ofTry ok, q⟩
    | cont => obtain ⟨σ', H', J', q⟩ := hsp; exact ⟨σ', H', J'.ofTry ok, q⟩
    | ret u => obtain ⟨v, σ', H', J', r, q⟩ := hsp; exact ⟨v, σ', H', J'.ofTry ok, r, q⟩

/-! the mirror of a try -/
/-- in an except suite that holds the error with the dict d -/
abbrev Ct.sui (c : Ct) (a : Addr) (d : Option Addr) : Ct := { c with xd := d.map fun dd => (a, dd) }
mutual
theorem Dn.sui {H : Hp} {ad : List Addr} {a0 : Addr} {d0 : Option Addr} : ∀ {d : D} {v : V}, Dn c H ad v d → Dn (c.sui a0 d0) H ad v d
  | _, _, .non => .non
  | _, _, .bl b => .bl b
  | _, _, .int i => .int i
  | _, _, .str x => .str x
  | _, _, .tup n r t => .tup n r (Dns.sui t)
  | _, _, .ktup r t => .ktup r (Dns.sui t)
  | _, _, .lst n r t => .lst n r (Dns.sui t)
  | _, _, .ins n m e k t => .ins n m e k (Dns.sui t)
  | _, _, .exo n n2 m e e2 t => .exo n n2 m e e2 (Dn.sui t)
theorem Dns.sui {H : Hp} {ad : List Addr} {a0 : Addr} {d0 : Option Addr} : ∀ {ds : List D} {vs : List V}, Dns c H ad vs ds → Dns (c.sui a0 d0) H ad vs ds
  | _, _, .nil => .nil
  | _, _, .cons a b => .cons (Dn.sui a) (Dns.sui b)
end
mutual
theorem Dn.unsui {H : Hp} {ad : List Addr} {a0 : Addr} {d0 : Option Addr} : ∀ {d : D} {v : V}, Dn (c.sui a0 d0) H ad v d → Dn c H ad v d
  | _, _, .non => .non
  | _, _, .bl b => .bl b
  | _, _, .int i => .int i
  | _, _, .str x => .str x
  | _, _, .tup n r t => .tup n r (Dns.unsui t)
  | _, _, .ktup r t => .ktup r (Dns.unsui t)
  | _, _, .lst n r t => .lst n r (Dns.unsui t)
  | _, _, .ins n m e k t => .ins n m e k (Dns.unsui t)
  | _, _, .exo n n2 m e e2 t => .exo n n2 m e e2 (Dn.unsui t)
theorem Dns.unsui {H : Hp} {ad : List Addr} {a0 : Addr} {d0 : Option Addr} : ∀ {ds : List D} {vs : List V}, Dns (c.sui a0 d0) H ad vs ds → Dns c H ad vs ds
  | _, _, .nil => .nil
  | _, _, .cons a b => .cons (Dn.unsui a) (Dns.unsui b)
end
theorem Sto.sui {H : Hp} {ad : List Addr} {m : Mu} {a0 : Addr} {d0 : Option Addr} (s : Sto c H ad m) : Sto (c.sui a0 d0) H ad m := ⟨s.nd, s.len, fun i a cl h1 h2 => by
  have x := s.at_ i a cl h1 h2
  cases cl with
  | lst ds => obtain ⟨vs, e, t⟩ := x; exact ⟨vs, e, t.sui⟩
  | ins C ks ds => obtain ⟨Ca, dx, fs, m, e, k, t⟩ := x; exact ⟨Ca, dx, fs, m, e, k, t.sui⟩⟩
theorem Sto.unsui {H : Hp} {ad : List Addr} {m : Mu} {a0 : Addr} {d0 : Option Addr} (s : Sto (c.sui a0 d0) H ad m) : Sto c H ad m := ⟨s.nd, s.len, fun i a cl h1 h2 => by
  have x := s.at_ i a cl h1 h2
  cases cl with
  | lst ds => obtain ⟨vs, e, t⟩ := x; exact ⟨vs, e, t.unsui⟩
  | ins C ks ds => obtain ⟨Ca, dx, fs, m, e, k, t⟩ := x; exact ⟨Ca, dx, fs, m, e, k, t.unsui⟩⟩
/-- an error does not go in or out of a suite by a name -/
def noX : Option Ar → Option Ar
  | some (.exn _ _) => none
  | x => x
def clr (g : Gm) : Gm := g.map noX
theorem clr_get {g : Gm} {i : Nat} {x : Ar} (e : (clr g)[i]? = some (some x)) : g[i]? = some (some x) ∧ ∀ ks ds, x ≠ .exn ks ds := by
  unfold clr at e
  rw [List.getElem?_map] at e
  cases q : g[i]? with
  | none => rw [q] at e; cases e
  | some y =>
    rw [q] at e
    cases y with
    | none => cases e
    | some y =>
      cases y with
      | exn ks ds => cases e
      | d z => cases e; exact ⟨rfl, fun _ _ h => by cases h⟩
      | cel z => cases e; exact ⟨rfl, fun _ _ h => by cases h⟩
      | scr z => cases e; exact ⟨rfl, fun _ _ h => by cases h⟩
theorem Sl.sui {H : Hp} {ad : List Addr} {σ : L2.St} {g : Gm} {a0 : Addr} {d0 : Option Addr} (s : Sl c H ad σ g) : Sl (c.sui a0 d0) H ad σ (clr g) := ⟨by simp [clr, s.1], fun i x e => by
  obtain ⟨e1, nx⟩ := clr_get e
  obtain ⟨v, hv, a⟩ := s.2 i x e1
  refine ⟨v, hv, ?_⟩
  cases a with
  | d q => exact .d q.sui
  | cel q => exact .cel q
  | scr n q z => exact .scr n q z
  | kscr q => exact .kscr q
  | exn _ _ _ _ _ => exact absurd rfl (nx _ _)⟩
theorem Sl.unsui {H : Hp} {ad : List Addr} {σ : L2.St} {g : Gm} {a0 : Addr} {d0 : Option Addr} (s : Sl (c.sui a0 d0) H ad σ g) : Sl c H ad σ (clr g) := ⟨by simp [clr, s.1], fun i x e => by
  obtain ⟨e1, nx⟩ := clr_get e
  obtain ⟨v, hv, a⟩ := s.2 i x e1
  refine ⟨v, hv, ?_⟩
  cases a with
  | d q => exact .d q.unsui
  | cel q => exact .cel q
  | scr n q z => exact .scr n q z
  | kscr q => exact .kscr q
  | exn _ _ _ _ _ => exact absurd rfl (nx _ _)⟩
structure Hdl where
  C : Str
  i : Option Nat
  m : MS
/-- behind a suite: the name is gone -/
def outH (i : Option Nat) (g : Gm) : Gm := match i with
  | none => clr g
  | some i => (clr g).set i none
def inH (i : Option Nat) (g : Gm) (ks : List Str) (ds : List D) : Gm := match i with
  | none => clr g
  | some i => (clr g).set i (some (.exn ks ds))
def hdlL (C : Str) (ks : List Str) (ds : List D) (g : Gm) (m : Mu) : List Hdl → RS
  | [] => .exc C ks ds g m
  | h :: r => if C = h.C then (match h.m (inH h.i g ks ds) m with
    | .nx g2 m2 => .nx (outH h.i g2) m2
    | .bk g2 m2 => .bk (outH h.i g2) m2
    | .ct g2 m2 => .ct (outH h.i g2) m2
    | .rt (.d x) m2 => .rt (.d x) m2
    | _ => .stuck) else hdlL C ks ds g m r
/-- kn: the errors that the clauses' classes are known to tell apart -/
def mTry (kn : List Str) (b : MS) (hs : List Hdl) : MS := fun g mu => match b g mu with
  | .exc C ks ds g' m => if C ∈ kn then hdlL C ks ds g' m hs else .stuck
  | .nx g m => .nx g m
  | .rt x m => .rt x m
  | .bk g m => .bk g m
  | .ct g m => .ct g m
  | .stuck => .stuck
/-- the clauses' readings by their mirrors -/
inductive ClM (c : Ct) (kn : List Str) : List (Value × Option Nat × Suite) → List Hdl → Prop
  | nil : ClM c kn [] []
  | cons {C : Str} {Ca : Addr} {i : Option Nat} {ts : Suite} {m : MS} {l : List (Value × Option Nat × Suite)} {hs : List Hdl} (hx : ∀ C' ∈ kn, ∀ Ca', c.mg C' = some (.ref Ca') → PySem.W.exmOne c.K (.ref Ca') (.ref Ca) = some (decide (C' = C)))
      (ht : ∀ a cls d D σ H, (∃ C', C' = C ∧ c.mg C' = some cls) → lftS (c.sui a d) W0 m D σ H → ts a cls d D σ H) (r : ClM c kn l hs) : ClM c kn ((.ref Ca, i, ts) :: l) (⟨C, i, m⟩ :: hs)
theorem hdl_run {kn : List Str} {D : Ends} {C : Str} {ks : List Str} {ds : List Dw.D} {Ca x : Addr} {fs : List (Str × V)} {σ : L2.St} {g : Gm} {H : Hp} {ad : List Addr} {m : Mu} (hkn : C ∈ kn) (hm : c.mg C = some (.ref Ca)) (hS : Sl c H ad σ g) (hT : Sto c H ad m) (nx : x ∉ ad) (hx : H x = some (.xd fs)) (hk : fs.map (·.1) = ks) (hds : Dns c H ad (fs.map (·.2)) ds) :
    ∀ {l : List (Value × Option Nat × Suite)} {hs : List Hdl}, ClM c kn l hs → OutS c W H ad (hdlL C ks ds g m hs) D → wCl c.K W D l (.ref Ca) (some x) σ H := by
  intro l hs hl
  induction hl with
  | nil => exact fun o => o Ca x fs σ H ad hm (.refl _ _) hS hT nx hx hk hds
  | @cons C0 Ca0 i ts m0 l0 hs0 hx0 ht r ih =>
    intro o
    refine ⟨decide (C = C0), hx0 C hkn Ca hm, fun hb a na => ?_, fun hb => ?_⟩
    · have hC : C = C0 := of_decide_eq_true hb
      unfold hdlL at o
      rw [if_pos hC] at o
      refine ht a (.ref Ca) (some x) _ _ H ⟨C, hC, hm⟩ ⟨inH i g ks ds, ad, m, ?_, hT.sui, ?_⟩
      · cases i with
        | none => exact hS.sui
        | some i => exact hS.sui.set (.exn rfl nx hx hk hds.sui)
      · cases hq : m0 (inH i g ks ds) m with
        | stuck => simp only [hq] at o; exact o.elim
        | exc C2 ks2 ds2 g2 m2 => simp only [hq] at o; exact o.elim
        | rt y m2 =>
          simp only [hq] at o
          cases y with
          | d y =>
            intro v H' ad' ch t av
            have : (gone D i).rt = D.rt := by cases i <;> rfl
            rw [this]
            exact o v H' ad' ch t.unsui (.d (d_of av).unsui)
          | cel j => exact o.elim
          | scr j => exact o.elim
          | exn _ _ => exact o.elim
        | nx g2 m2 =>
          simp only [hq] at o
          intro σ' H' ad' ch s t
          cases i with
          | none => exact o σ' H' ad' ch s.unsui t.unsui
          | some i => exact o _ H' ad' ch s.unsui.del t.unsui
        | bk g2 m2 =>
          simp only [hq] at o
          intro σ' H' ad' ch s t
          cases i with
          | none => exact o σ' H' ad' ch s.unsui t.unsui
          | some i => exact o _ H' ad' ch s.unsui.del t.unsui
        | ct g2 m2 =>
          simp only [hq] at o
          intro σ' H' ad' ch s t
          cases i with
          | none => exact o σ' H' ad' ch s.unsui t.unsui
          | some i => exact o _ H' ad' ch s.unsui.del t.unsui
    · have hC : ¬ C = C0 := of_decide_eq_false hb
      unfold hdlL at o
      rw [if_neg hC] at o
      exact ih o
theorem try_run {kn : List Str} {mb : MS} {l : List (Value × Option Nat × Suite)} {hs : List Hdl} (hl : ClM c kn l hs) {D : Ends} {σ : L2.St} {H : Hp} (h : lftS c W (mTry kn mb hs) D σ H) : lftS c (wCl c.K W D l) mb D σ H := by
  obtain ⟨g, ad, mu, hS, hT, o⟩ := h
  refine ⟨g, ad, mu, hS, hT, ?_⟩
  unfold mTry at o
  cases hb : mb g mu with
  | nx g m => rw [hb] at o; exact o
  | rt x m => rw [hb] at o; exact o
  | bk g m => rw [hb] at o; exact o
  | ct g m => rw [hb] at o; exact o
  | stuck => rw [hb] at o; exact o
  | exc C ks ds g' m =>
    rw [hb] at o
    intro Ca x fs σ' H' ad' hm ch s t nx hx hk hds
    simp only at o
    split at o
    · rename_i hkn
      exact hdl_run hkn hm s t nx hx hk hds hl (OutS.mv ch o)
    · exact o.elim
theorem ds_try {body : List Stmt} {h0 : ExceptHandler} {hds : List ExceptHandler} {l : List (Value × Option Nat × Suite)} {pos : Pos} {kn : List Str} {mb : MS} {hs : List Hdl} (h1 : X.stack = X.env :: X.outer) (hf : X.env.frame = some X.env.locals) (hN : X.N.Nodup) (hK : X.K = c.K) (tk : Takes X W)
    (hb : ∀ (W : WX) (pn : List (Addr × Obj)) (xe : Value → Shared → Prop), Takes (X.tr pn xe) W → PassesOwn (model X.prog X.w) X.A X.env xe → PSs (X.tr pn xe) body (lftS c W mb))
    (hh : ClOk X (h0 :: hds) l) (hl : ClM c kn l hs) : PS X (.Try body (h0 :: hds) [] [] pos) (lftS c W (mTry kn mb hs)) :=
  (ps_tryN (tb := fun W => lftS c W mb) h1 hf hN tk hb hh).weak fun D σ H h => by
    rw [hK]
    exact try_run hl h
/-- e.f of the error in hand -/
def mXf (f : Str) (e : ME) : ME := fun g mu => (e g mu).bd fun x m => match x with
  | .exn ks ds => (match lkF ks ds f with
    | some d => .ok (.d d) m
    | none => .stuck)
  | _ => .stuck
theorem de_xf {a Ca : Addr} {oe : Obj} {cls : Value} {d : Option Addr} {pn : List (Addr × Obj)} {i : Nat} {f : Str} {e : Expr} {pos : Pos} (T : XfC X.K Ca) (hno : PySem.W.findIn X.K (.ref Ca) f = some none) (hz : Zc cls d oe) (hf : ∃ vs, oe.data = .fields vs) (hcls : cls = .ref Ca)
    (hv : PE (X.suite a ((a, oe) :: pn)) e (tVar i)) (hb : attributeBase e f X.env (eval e X.env) = eval e X.env := by rfl) :
    PE (X.suite a ((a, oe) :: pn)) (.Attribute e f pos) (lft (c.sui a d) W0 (mXf f (mVar i))) :=
  (pe_xf T hno hz hf hv hb).weak fun σ H Q ⟨g, ad, mu, hS, hT, o⟩ => by
    unfold mXf mVar at o
    split at o
    · rename_i x e1
      obtain ⟨v, e2, av⟩ := hS.2 i x e1
      simp only [R.bd] at o
      split at o
      · rename_i ks ds
        split at o
        · rename_i dv hl
          cases av with
          | exn hxd n hh hk t =>
            subst hk
            cases d with
            | none => cases hxd
            | some dd =>
              cases hxd
              obtain ⟨w, hw, dw⟩ := lkF_ok t hl
              exact ⟨_, e2, rfl, hcls, _, _, w, rfl, hh, hw, o w H ad (.refl _ _) hT (.d dw)⟩
        · exact o.elim
      · exact o.elim
    · exact o.elim
end
end Dw
namespace Dw
open PySem PySem.Spec PyProof.Rows L2
section
variable {X : Cx} {c : Ct} {W : WX} {H : Hp} {ad : List Addr} {mu : Mu} {v : V}
theorem str_of {s : Str} (h : An c H ad v (.d (.str s))) : v = .str s := by
  cases h with
  | d a => cases a; rfl
theorem non_of (h : An c H ad v (.d .non)) : v = .non := by
  cases h with
  | d a => cases a; rfl

/-! ### + - * // % ** -/
def fAdd : Mu → Ar → Ar → Option D := fun _ x y => match x, y with
  | .d (.int i), .d (.int j) => some (.int (i + j))
  | .d (.str a), .d (.str b) => if a.length + b.length ≤ 16777216 then some (.str (a ++ b)) else none
  | .d (.tup a), .d (.tup b) => if a.length + b.length ≤ 16777216 then some (.tup (a ++ b)) else none
  | .d (.lst a), .d (.lst b) => if a.length + b.length ≤ 16777216 then some (.lst (a ++ b)) else none
  | _, _ => none
def rAddS : R2 := fun x y H Q => ∃ i j, x = .str i ∧ y = .str j ∧ i.length + j.length ≤ sizeLine ∧ Q (.str (i ++ j)) H
def rAddA (K : PySem.W.Frag) : R2 := fun x y H Q => (rI0 fun i j => .int (i + j)) x y H Q ∨ (rAddS x y H Q ∨ (rCatA K x y H Q ∨ rCat x y H Q))
theorem op_addA : OpR X (binaryOp .Add) (rAddA X.K) := op_add.or (op_add_str.or (op_catA.or op_cat))
theorem od_add : OpD c (rAddA c.K) fAdd := fun H ad mu v w x y z s a b h Q q => by
  unfold fAdd at h
  split at h
  · cases h
    rw [int_of a, int_of b]
    exact .inl ⟨_, _, rfl, rfl, q _ H (.refl _) (.int _)⟩
  · split at h
    · rename_i hl
      cases h
      rw [str_of a, str_of b]
      exact .inr (.inl ⟨_, _, rfl, rfl, by rw [line]; exact hl, q _ H (.refl _) (.str _)⟩)
    · cases h
  · split at h
    · rename_i xs ys hl
      cases h
      obtain ⟨p, us, rfl, hp, tp⟩ := tup_of a
      obtain ⟨p2, us2, rfl, hp2, tp2⟩ := tup_of b
      refine .inr (.inr (.inl ⟨p, p2, us, us2, rfl, rfl, hp, hp2, by rw [tp.length, tp2.length, line]; exact hl, fun e => ?_, fun _ e => ?_, fun _ _ r hr => ?_⟩))
      · subst e
        cases tp
        exact q _ H (.refl _) (d_of b)
      · subst e
        cases tp2
        rw [List.append_nil] at q
        exact q _ H (.refl _) (d_of a)
      · exact q _ _ (.new hr) (new_tup s hr (tp.append tp2))
    · cases h
  · split at h
    · rename_i xs ys hl
      cases h
      obtain ⟨p, us, rfl, _, hp, _, tp⟩ := lst_of2 a
      obtain ⟨p2, us2, rfl, _, hp2, _, tp2⟩ := lst_of2 b
      exact .inr (.inr (.inr ⟨p, p2, us, us2, rfl, rfl, hp, hp2, by rw [tp.length, tp2.length, line]; exact hl, fun r hr => q _ _ (.new hr) (new_lst s hr (tp.append tp2))⟩))
    · cases h
  · cases h
def fI (C : Int → Int → Prop) [∀ i j, Decidable (C i j)] (g : Int → Int → Int) : Mu → Ar → Ar → Option D := fun _ x y => match x, y with
  | .d (.int i), .d (.int j) => if C i j then some (.int (g i j)) else none
  | _, _ => none
theorem od_i {C : Int → Int → Prop} [∀ i j, Decidable (C i j)] {g : Int → Int → Int} : OpD c (rI C fun i j => .int (g i j)) (fI C g) := fun H ad mu v w x y z s a b h Q q => by
  unfold fI at h
  split at h
  · split at h
    · rename_i hc
      cases h
      rw [int_of a, int_of b]
      exact ⟨_, _, rfl, rfl, hc, q _ H (.refl _) (.int _)⟩
    · cases h
  · cases h
instance (i j : Int) : Decidable (CMul i j) := by unfold CMul; infer_instance
instance (i j : Int) : Decidable (CDiv i j) := by unfold CDiv; infer_instance
instance (i j : Int) : Decidable (CPow i j) := by unfold CPow; infer_instance
def fSub : Mu → Ar → Ar → Option D := fun _ x y => match x, y with
  | .d (.int i), .d (.int j) => some (.int (i - j))
  | _, _ => none
theorem od_sub : OpD c (rI0 fun i j => .int (i - j)) fSub := fun H ad mu v w x y z s a b h Q q => by
  unfold fSub at h
  split at h
  · cases h
    rw [int_of a, int_of b]
    exact ⟨_, _, rfl, rfl, q _ H (.refl _) (.int _)⟩
  · cases h
def fMul : Mu → Ar → Ar → Option D := fI CMul fun i j => i * j
def fDiv : Mu → Ar → Ar → Option D := fI CDiv fun i j => i / j
def fMod : Mu → Ar → Ar → Option D := fI (fun _ j => 0 < j) fun i j => i % j
def fPow : Mu → Ar → Ar → Option D := fI CPow fun i j => i ^ j.toNat
theorem od_mul : OpD c (rI CMul fun i j => .int (i * j)) fMul := od_i
theorem od_div : OpD c (rI CDiv fun i j => .int (i / j)) fDiv := od_i
theorem od_mod : OpD c (rI (fun _ j => 0 < j) fun i j => .int (i % j)) fMod := od_i
theorem od_pow : OpD c (rI CPow fun i j => .int (i ^ j.toNat)) fPow := od_i
def fNeg : Mu → Ar → Option D := fun _ x => match x with
  | .d (.int i) => some (.int (-i))
  | _ => none
theorem ud_neg : UnD c (rU fun i => .int (-i)) fNeg := fun H ad mu v x z s a h Q q => by
  unfold fNeg at h
  split at h
  · cases h
    rw [int_of a]
    exact ⟨_, rfl, q _ H (.refl _) (.int _)⟩
  · cases h

/-! ### comparisons of ints; is, is not -/
def fB (g : Int → Int → Bool) : Mu → Ar → Ar → Option D := fun _ x y => match x, y with
  | .d (.int i), .d (.int j) => some (.bl (g i j))
  | _, _ => none
theorem od_b {g : Int → Int → Bool} : OpD c (rI0 fun i j => .bl (g i j)) (fB g) := fun H ad mu v w x y z s a b h Q q => by
  unfold fB at h
  split at h
  · cases h
    rw [int_of a, int_of b]
    exact ⟨_, _, rfl, rfl, q _ H (.refl _) (.bl _)⟩
  · cases h
def fLt := fB fun i j => decide (i < j)
def fLe := fB fun i j => decide (i ≤ j)
def fGt := fB fun i j => decide (j < i)
def fGe := fB fun i j => decide (j ≤ i)
theorem od_lt : OpD c (rI0 fun i j => .bl (decide (i < j))) fLt := od_b
theorem od_le : OpD c (rI0 fun i j => .bl (decide (i ≤ j))) fLe := od_b
theorem od_gt : OpD c (rI0 fun i j => .bl (decide (j < i))) fGt := od_b
theorem od_ge : OpD c (rI0 fun i j => .bl (decide (j ≤ i))) fGe := od_b
/-- is True, is False; is None -/
def fIsB (neg : Bool) : Mu → Ar → Ar → Option D := fun _ x y => match x, y with
  | .d (.bl a), .d (.bl b) => some (.bl (decide (a = b) != neg))
  | _, _ => none
theorem od_isB : OpD c rIsB (fIsB false) := fun H ad mu v w x y z s a b h Q q => by
  unfold fIsB at h
  split at h
  · rename_i p r
    cases h
    rw [bl_of a, bl_of b]
    refine ⟨p, r, rfl, rfl, q _ H (.refl _) ?_⟩
    rw [Bool.bne_false]
    exact .bl _
  · cases h
theorem od_notB : OpD c rNotB (fIsB true) := fun H ad mu v w x y z s a b h Q q => by
  unfold fIsB at h
  split at h
  · rename_i p r
    cases h
    rw [bl_of a, bl_of b]
    refine ⟨p, r, rfl, rfl, q _ H (.refl _) ?_⟩
    rw [Bool.bne_true]
    exact .bl _
  · cases h
def isNon : Ar → Bool
  | .d .non => true
  | _ => false
theorem isNon_ok {x : Ar} (a : An c H ad v x) : decide (v = .non) = isNon x := by
  cases a with
  | d q => cases q <;> rfl
  | cel _ => rfl
  | scr _ _ _ => rfl
  | kscr _ => rfl
  | exn _ _ _ _ _ => rfl
def fIsN : Mu → Ar → Ar → Option D := fun _ x y => match y with
  | .d .non => some (.bl (isNon x))
  | _ => none
def fNotN : Mu → Ar → Ar → Option D := fun _ x y => match y with
  | .d .non => some (.bl (!isNon x))
  | _ => none
theorem od_isN : OpD c (fun x y H Q => y = .non ∧ Q (.bl (decide (x = .non))) H) fIsN := fun H ad mu v w x y z s a b h Q q => by
  unfold fIsN at h
  split at h
  · cases h
    refine ⟨non_of b, q _ H (.refl _) ?_⟩
    rw [isNon_ok a]
    exact .bl _
  · cases h
theorem od_notN : OpD c (fun x y H Q => y = .non ∧ Q (.bl (!decide (x = .non))) H) fNotN := fun H ad mu v w x y z s a b h Q q => by
  unfold fNotN at h
  split at h
  · cases h
    refine ⟨non_of b, q _ H (.refl _) ?_⟩
    rw [isNon_ok a]
    exact .bl _
  · cases h

/-! ### == of data -/
mutual
def deq : D → D → Bool
  | .non, .non => true
  | .bl a, .bl b => a == b
  | .bl a, .int j => (if a then 1 else 0) == j
  | .int i, .bl b => i == (if b then 1 else 0)
  | .int i, .int j => i == j
  | .str x, .str y => x == y
  | .lst xs, .lst ys => deqs xs ys
  | .tup xs, .tup ys => deqs xs ys
  | _, _ => false
def deqs : List D → List D → Bool
  | [], [] => true
  | x :: xs, y :: ys => deq x y && deqs xs ys
  | _, _ => false
end
mutual
/-- data that == of the library reads: no instance in it -/
def dok : D → Bool
  | .non => true
  | .bl _ => true
  | .int _ => true
  | .str s => PyData.strOk s
  | .tup xs => doks xs
  | .lst xs => doks xs
  | .ins _ _ _ => false
  | .exo _ _ _ => false
def doks : List D → Bool
  | [] => true
  | x :: xs => dok x && doks xs
end
mutual
def dep : D → Nat
  | .tup xs => deps xs + 1
  | .lst xs => deps xs + 1
  | _ => 0
def deps : List D → Nat
  | [] => 0
  | x :: xs => max (dep x) (deps xs)
end
mutual
def toPy : D → PyData
  | .non => .none
  | .bl b => .bool b
  | .int i => .int i
  | .str s => .str s
  | .tup xs => .tuple (toPys xs)
  | .lst xs => .list (toPys xs)
  | .ins _ _ _ => .none
  | .exo _ _ _ => .none
def toPys : List D → List PyData
  | [] => []
  | x :: xs => toPy x :: toPys xs
end
mutual
theorem dep_py : ∀ d : D, (toPy d).depth = dep d
  | .non => by simp [toPy, dep, PyData.depth]
  | .bl b => by simp [toPy, dep, PyData.depth]
  | .int i => by simp [toPy, dep, PyData.depth]
  | .str s => by simp [toPy, dep, PyData.depth]
  | .tup xs => by simp [toPy, dep, PyData.depth, deps_py xs]
  | .lst xs => by simp [toPy, dep, PyData.depth, deps_py xs]
  | .ins _ _ _ => by simp [toPy, dep, PyData.depth]
  | .exo _ _ _ => by simp [toPy, dep, PyData.depth]
theorem deps_py : ∀ ds : List D, PyData.depthAll (toPys ds) = deps ds
  | [] => by simp [toPys, deps, PyData.depthAll]
  | x :: xs => by simp [toPys, deps, PyData.depthAll, dep_py x, deps_py xs]
end
mutual
theorem dok_py : ∀ d : D, dok d = true → (toPy d).canLay0 = true
  | .non, _ => by simp [toPy, PyData.canLay0]
  | .bl b, _ => by simp [toPy, PyData.canLay0]
  | .int i, _ => by simp [toPy, PyData.canLay0]
  | .str s, h => by simpa [toPy, PyData.canLay0, dok] using h
  | .tup xs, h => by
    have := doks_py xs (by simpa [dok] using h)
    simpa [toPy, PyData.canLay0] using this
  | .lst xs, h => by
    have := doks_py xs (by simpa [dok] using h)
    simpa [toPy, PyData.canLay0] using this
  | .ins _ _ _, h => by simp [dok] at h
  | .exo _ _ _, h => by simp [dok] at h
theorem doks_py : ∀ ds : List D, doks ds = true → PyData.canLayAll0 (toPys ds) = true
  | [], _ => by simp [toPys, PyData.canLayAll0]
  | x :: xs, h => by
    simp only [doks, Bool.and_eq_true] at h
    simp [toPys, PyData.canLayAll0, dok_py x h.1, doks_py xs h.2]
end
mutual
theorem deq_py : ∀ d e : D, dok d = true → dok e = true → PyData.eqv (toPy d) (toPy e) = deq d e
  | .non, e, _, h => by cases e <;> simp_all [toPy, deq, PyData.eqv, dok]
  | .bl b, e, _, h => by cases e <;> simp_all [toPy, deq, PyData.eqv, dok]
  | .int i, e, _, h => by cases e <;> simp_all [toPy, deq, PyData.eqv, dok]
  | .str s, e, _, h => by cases e <;> simp_all [toPy, deq, PyData.eqv, dok]
  | .ins _ _ _, e, h, _ => by simp [dok] at h
  | .exo _ _ _, e, h, _ => by simp [dok] at h
  | .tup xs, e, h1, h => by
    cases e with
    | tup ys =>
      have q := deqs_py xs ys (by simpa [dok] using h1) (by simpa [dok] using h)
      simp [toPy, deq, PyData.eqv, q]
    | ins _ _ _ => simp [dok] at h
    | exo _ _ _ => simp [dok] at h
    | non => simp [toPy, deq, PyData.eqv]
    | bl _ => simp [toPy, deq, PyData.eqv]
    | int _ => simp [toPy, deq, PyData.eqv]
    | str _ => simp [toPy, deq, PyData.eqv]
    | lst _ => simp [toPy, deq, PyData.eqv]
  | .lst xs, e, h1, h => by
    cases e with
    | lst ys =>
      have q := deqs_py xs ys (by simpa [dok] using h1) (by simpa [dok] using h)
      simp [toPy, deq, PyData.eqv, q]
    | ins _ _ _ => simp [dok] at h
    | exo _ _ _ => simp [dok] at h
    | non => simp [toPy, deq, PyData.eqv]
    | bl _ => simp [toPy, deq, PyData.eqv]
    | int _ => simp [toPy, deq, PyData.eqv]
    | str _ => simp [toPy, deq, PyData.eqv]
    | tup _ => simp [toPy, deq, PyData.eqv]
theorem deqs_py : ∀ ds es : List D, doks ds = true → doks es = true → PyData.eqvAll (toPys ds) (toPys es) = deqs ds es
  | [], [], _, _ => by simp [toPys, deqs, PyData.eqvAll]
  | [], _ :: _, _, _ => by simp [toPys, deqs, PyData.eqvAll]
  | _ :: _, [], _, _ => by simp [toPys, deqs, PyData.eqvAll]
  | x :: xs, y :: ys, h1, h2 => by
    simp only [doks, Bool.and_eq_true] at h1 h2
    simp [toPys, deqs, PyData.eqvAll, deq_py x y h1.1 h2.1, deqs_py xs ys h1.2 h2.2]
end
mutual
theorem dp_of : ∀ {d : D} {v : V}, dok d = true → Dn c H ad v d → Dp c.K H v (toPy d)
  | _, _, _, .non => by rw [toPy]; exact .non
  | _, _, _, .bl b => by rw [toPy]; exact .bl b
  | _, _, _, .int i => by rw [toPy]; exact .int i
  | _, _, _, .str x => by rw [toPy]; exact .str x
  | _, _, h, .tup n r t => by rw [toPy]; exact .tup (.inl r) (dps_of (by simpa [dok] using h) t)
  | _, _, h, .ktup r t => by rw [toPy]; exact .tup (.inr r) (dps_of (by simpa [dok] using h) t)
  | _, _, h, .lst n r t => by rw [toPy]; exact .lst (SqL.of r) (dps_of (by simpa [dok] using h) t)
  | _, _, h, .ins n m e k t => by simp [dok] at h
theorem dps_of : ∀ {ds : List D} {vs : List V}, doks ds = true → Dns c H ad vs ds → DpAll c.K H vs (toPys ds)
  | _, _, _, .nil => by rw [toPys]; exact .nil
  | _, _, h, .cons a b => by
    simp only [doks, Bool.and_eq_true] at h
    rw [toPys]
    exact .cons (dp_of h.1 a) (dps_of h.2 b)
end
/-- what is compared -/
def datOf (mu : Mu) : Ar → Option D
  | .d x => some x
  | .cel i => match mu[i]? with
    | some (.lst xs) => some (.lst xs)
    | _ => none
  | _ => none
theorem datOf_ok {x : Ar} {d : D} (s : Sto c H ad mu) (a : An c H ad v x) (h : datOf mu x = some d) (hd : dok d = true) : Dp c.K H v (toPy d) := by
  unfold datOf at h
  split at h
  · cases h
    exact dp_of hd (d_of a)
  · split at h
    · rename_i hm
      cases h
      obtain ⟨p, us, rfl, _, hp, tp⟩ := s.rd a hm
      rw [toPy]
      exact .lst (SqL.of hp) (dps_of (by simpa [dok] using hd) tp)
    · cases h
  · cases h
def fEq (neg : Bool) : Mu → Ar → Ar → Option D := fun mu x y => match datOf mu x, datOf mu y with
  | some d, some e => if dok d = true ∧ dok e = true ∧ dep d ≤ 64 ∧ dep e ≤ 64 then some (.bl (deq d e != neg)) else none
  | _, _ => none
theorem shaped_of {d : D} (h1 : dok d = true) (h2 : dep d ≤ 64) : SeqAt.shaped (toPy d) = true := by
  unfold SeqAt.shaped
  rw [dok_py d h1, dep_py]
  simpa using h2
theorem od_eq : OpD c (rEqD c.K) (fEq false) := fun H ad mu v w x y z s a b h Q q => by
  unfold fEq at h
  split at h
  · split at h
    · rename_i d e hd he hc
      cases h
      obtain ⟨h1, h2, h3, h4⟩ := hc
      refine ⟨toPy d, toPy e, datOf_ok s a hd h1, datOf_ok s b he h2, shaped_of h1 h3, shaped_of h2 h4, q _ H (.refl _) ?_⟩
      rw [deq_py d e h1 h2, Bool.bne_false]
      exact .bl _
    · cases h
  · cases h
theorem od_ne : OpD c (rNeD c.K) (fEq true) := fun H ad mu v w x y z s a b h Q q => by
  unfold fEq at h
  split at h
  · split at h
    · rename_i d e hd he hc
      cases h
      obtain ⟨h1, h2, h3, h4⟩ := hc
      refine ⟨toPy d, toPy e, datOf_ok s a hd h1, datOf_ok s b he h2, shaped_of h1 h3, shaped_of h2 h4, q _ H (.refl _) ?_⟩
      rw [deq_py d e h1 h2, Bool.bne_true]
      exact .bl _
    · cases h
  · cases h

/-! ### x[i] -/
def fIx : Mu → Ar → Ar → Option D := fun mu x y => match x, y with
  | .d (.tup xs), .d (.int i) => atI xs i
  | .d (.lst xs), .d (.int i) => atI xs i
  | .cel n, .d (.int i) => match mu[n]? with
    | some (.lst xs) => atI xs i
    | _ => none
  | .scr ns, .d (.int i) => match atI ns i with
    | some k => some (.int k)
    | none => none
  | .d (.str s), .d (.int i) => if s.length ≤ 16777216 then (match atI s.cps.toList i with
    | some ch => some (.str ⟨#[ch]⟩)
    | none => none) else none
  | _, _ => none
theorem atI_dns {vs : List V} {ds : List D} {i : Int} {d : D} (t : Dns c H ad vs ds) (h : atI ds i = some d) : ∃ w, atI vs i = some w ∧ Dn c H ad w d := by
  unfold atI at h ⊢
  rw [t.length]
  cases e : ixN ds.length i with
  | none => rw [e] at h; cases h
  | some j =>
    rw [e] at h
    exact t.get h
theorem atI_ints {ns : List Int} {i k : Int} (h : atI ns i = some k) : atI (ns.map V.int) i = some (.int k) := by
  unfold atI at h ⊢
  rw [List.length_map]
  cases e : ixN ns.length i with
  | none => rw [e] at h; cases h
  | some j =>
    rw [e] at h
    have h' : ns[j]? = some k := h
    show (ns.map V.int)[j]? = some (.int k)
    rw [List.getElem?_map, h']
    rfl
theorem od_ix : OpD c (rIx c.K) fIx := fun H ad mu v w x y z s a b h Q q => by
  unfold fIx at h
  split at h
  · obtain ⟨p, us, rfl, hp, tp⟩ := tup_of a
    obtain ⟨u, hu, du⟩ := atI_dns tp h
    rw [int_of b]
    exact .inr (.inl ⟨p, us, _, u, rfl, rfl, hp, hu, q _ H (.refl _) du⟩)
  · obtain ⟨p, us, rfl, _, hp, _, tp⟩ := lst_of2 a
    obtain ⟨u, hu, du⟩ := atI_dns tp h
    rw [int_of b]
    exact .inl ⟨p, us, _, u, rfl, rfl, SqL.of hp, hu, q _ H (.refl _) du⟩
  · split at h
    · rename_i hm
      obtain ⟨p, us, rfl, _, hp, tp⟩ := s.rd a hm
      obtain ⟨u, hu, du⟩ := atI_dns tp h
      rw [int_of b]
      exact .inl ⟨p, us, _, u, rfl, rfl, SqL.of hp, hu, q _ H (.refl _) du⟩
    · cases h
  · split at h
    · rename_i k hk
      cases h
      rw [int_of b]
      cases a with
      | scr n r e => exact .inl ⟨_, _, _, _, rfl, rfl, r, atI_ints hk, q _ H (.refl _) (.int _)⟩
      | kscr r => exact .inl ⟨_, _, _, _, rfl, rfl, r H, atI_ints hk, q _ H (.refl _) (.int _)⟩
    · cases h
  · split at h
    · rename_i hl
      split at h
      · rename_i ch hc
        cases h
        rw [int_of b, str_of a]
        exact .inr (.inr ⟨_, _, ch, rfl, rfl, by rw [line]; exact hl, hc, q _ H (.refl _) (.str _)⟩)
      · cases h
    · cases h
  · cases h

/-! ### x[a:b] -/
abbrev MO := Gm → Mu → R (Option Int)
def lftO (c : Ct) (W : WX) (m : MO) : TO := fun σ H Q => ∃ g ad mu, Sl c H ad σ g ∧ Sto c H ad mu ∧ OutG c W σ H ad (fun _ _ b b' => b = b') (m g mu) Q
def mNoP : MO := fun _ mu => .ok none mu
def mPart (e : ME) : MO := fun g mu => (e g mu).bd fun x m => match x with
  | .d (.int i) => .ok (some i) m
  | _ => .stuck
theorem dpo_none : PO X none (lftO c W mNoP) := po_none.weak fun σ H Q ⟨g, ad, mu, hS, hT, o⟩ => o none H ad (.refl _ _) hT rfl
theorem dpo_some {e : Expr} {m : ME} (h : PE X e (lft c W m)) : PO X (some e) (lftO c W (mPart m)) := (po_some h).weak fun σ H Q ⟨g, ad, mu, hS, hT, o⟩ => by
  refine ⟨g, ad, mu, hS, hT, OutG.imp (OutG.bd (rel := An c) o) fun v H1 ⟨ad1, mu1, x, ch1, t1, dx, o1⟩ => ?_⟩
  split at o1
  · exact ⟨_, int_of dx, o1 _ H1 ad1 (.refl _ _) t1 rfl⟩
  · exact o1.elim
def cutD (xs : List D) (lo hi : Option Int) : List D := (xs.drop (HT.sIx xs.length 0 lo)).take (HT.sIx xs.length xs.length hi - HT.sIx xs.length 0 lo)
theorem cut_dns {vs : List V} {ds : List D} (t : Dns c H ad vs ds) (lo hi : Option Int) : Dns c H ad (cutV vs lo hi) (cutD ds lo hi) := by
  unfold cutV cutD
  rw [t.length]
  exact (t.drop _).take _
def fSl : Mu → Ar → Option Int → Option Int → Option D := fun mu x lo hi => match x with
  | .d (.tup xs) => some (.tup (cutD xs lo hi))
  | .d (.lst xs) => some (.lst (cutD xs lo hi))
  | .cel n => match mu[n]? with
    | some (.lst xs) => some (.lst (cutD xs lo hi))
    | _ => none
  | _ => none
def rSlS (K : PySem.W.Frag) : V → Option Int → Option Int → Hp → VK → Prop := fun x lo hi H Q => rSlA K x lo hi H Q ∨ rSlL K x lo hi H Q
def mSl (f : Mu → Ar → Option Int → Option Int → Option D) (e : ME) (lo hi : MO) : ME := fun g mu => (e g mu).bd fun x m => (lo g m).bd fun l m1 => (hi g m1).bd fun h m2 => match f m2 x l h with
  | some z => .ok (.d z) m2
  | none => .stuck
def SlD (c : Ct) (r : V → Option Int → Option Int → Hp → VK → Prop) (f : Mu → Ar → Option Int → Option Int → Option D) : Prop :=
  ∀ (H : Hp) (ad : List Addr) (mu : Mu) (v : V) (x : Ar) (lo hi : Option Int) (z : D), Sto c H ad mu → An c H ad v x → f mu x lo hi = some z → ∀ Q : VK, (∀ u H', Ex H H' → Dn c H' ad u z → Q u H') → r v lo hi H Q
theorem cut_whole {xs : List D} {lo hi : Option Int} (h : HT.sIx xs.length 0 lo = 0 ∧ HT.sIx xs.length xs.length hi = xs.length) : cutD xs lo hi = xs := by
  unfold cutD
  rw [h.1, h.2]
  simp
theorem sd_seq : SlD c (rSlS c.K) fSl := fun H ad mu v x lo hi z s a h Q q => by
  unfold fSl at h
  split at h
  · cases h
    obtain ⟨p, us, rfl, hp, tp⟩ := tup_of a
    refine .inl ⟨p, us, rfl, hp, fun e => ?_, fun _ r hr => q _ _ (.new hr) (new_tup s hr (cut_dns tp lo hi))⟩
    rw [tp.length] at e
    rw [cut_whole e] at q
    exact q _ H (.refl _) (d_of a)
  · cases h
    obtain ⟨p, us, rfl, _, hp, _, tp⟩ := lst_of2 a
    exact .inr ⟨p, us, rfl, SqL.of hp, fun r hr => q _ _ (.new hr) (new_lst s hr (cut_dns tp lo hi))⟩
  · split at h
    · rename_i hm
      cases h
      obtain ⟨p, us, rfl, _, hp, tp⟩ := s.rd a hm
      exact .inr ⟨p, us, rfl, SqL.of hp, fun r hr => q _ _ (.new hr) (new_lst s hr (cut_dns tp lo hi))⟩
    · cases h
  · cases h
theorem sl_seq : SlR X (rSlS X.K) := sl_tupA.or sl_list
theorem de_sl {r : V → Option Int → Option Int → Hp → VK → Prop} {f : Mu → Ar → Option Int → Option Int → Option D} {e : Expr} {lo hi : Option Expr} {m : ME} {ml mh : MO} {pos p2 : Pos} (hr : SlR X r) (hf : SlD c r f) (he : PE X e (lft c W m)) (hl : PO X lo (lftO c W ml)) (hu : PO X hi (lftO c W mh)) : PE X (.Subscript e (.Slice lo hi none p2) pos) (lft c W (mSl f m ml mh)) :=
  (pe_slice hr he hl hu).weak fun σ H Q ⟨g, ad, mu, hS, hT, o⟩ => by
    refine ⟨g, ad, mu, hS, hT, OutG.imp (OutG.bd (rel := An c) o) fun v H1 ⟨ad1, mu1, x, ch1, t1, dx, o1⟩ => ?_⟩
    refine ⟨g, ad1, mu1, hS.ch ch1, t1, OutG.imp (OutG.bd (rel := fun _ _ b b' => b = b') o1) fun l H2 ⟨ad2, mu2, l', ch2, t2, el, o2⟩ => ?_⟩
    refine ⟨g, ad2, mu2, (hS.ch ch1).ch ch2, t2, OutG.imp (OutG.bd (rel := fun _ _ b b' => b = b') o2) fun u H3 ⟨ad3, mu3, u', ch3, t3, eu, o3⟩ => ?_⟩
    cases el
    cases eu
    split at o3
    · rename_i z hz
      exact hf H3 ad3 mu3 v x l u z t3 ((dx.ch ch2).ch ch3) hz Q fun w H' e' d => o3 w H' ad3 (.ex e') (t3.ex e') (.d d)
    · exact o3.elim
/-- a text's slice -/
def fSlT : Mu → Ar → Option Int → Option Int → Option D := fun _ x lo hi => match x with
  | .d (.str s) => if s.length ≤ 16777216 then some (.str (cutS s lo hi)) else none
  | _ => none
end
end Dw
namespace Dw
open PySem PySem.Spec PyProof.Rows L2
section
variable {X : Cx} {c : Ct} {W : WX} {H : Hp} {ad : List Addr} {mu : Mu} {v : V}
theorem sd_txt : SlD c L2.rSlS fSlT := fun H ad mu v x lo hi z s a h Q q => by
  unfold fSlT at h
  split at h
  · split at h
    · rename_i hl
      cases h
      rw [str_of a]
      exact ⟨_, rfl, by rw [line]; exact hl, q _ H (.refl _) (.str _)⟩
    · cases h
  · cases h

/-! ### len, abs, int, str, list, tuple, max, all, any, sum -/
def lenD (mu : Mu) : Ar → Option Nat
  | .d (.tup xs) => some xs.length
  | .d (.lst xs) => some xs.length
  | .cel n => match mu[n]? with
    | some (.lst xs) => some xs.length
    | _ => none
  | .scr ns => some ns.length
  | .d (.str s) => if s.length ≤ 16777216 then some s.length else none
  | _ => none
def fLen : Mu → List Ar → Option D := fun mu xs => match xs with
  | [x] => match lenD mu x with
    | some n => some (.int (n : Nat))
    | none => none
  | _ => none
theorem cd_len : CallD c (fun xs H Q => ∃ x n, xs = [x] ∧ LenV c.K x H n ∧ Q (.int n) H) fLen := fun H ad mu vs xs z s a h Q q => by
  unfold fLen at h
  split at h
  · split at h
    · rename_i x _ n hn
      cases h
      obtain ⟨v, rfl, b⟩ := a.one
      refine ⟨v, n, rfl, ?_, q _ H (.refl _) (.int _)⟩
      unfold lenD at hn
      split at hn
      · cases hn
        obtain ⟨p, us, rfl, hp, tp⟩ := tup_of b
        exact .inr ⟨us, hp, tp.length.symm⟩
      · cases hn
        obtain ⟨p, us, rfl, _, hp, _, tp⟩ := lst_of2 b
        exact .inl ⟨us, SqL.of hp, tp.length.symm⟩
      · split at hn
        · rename_i hm
          cases hn
          obtain ⟨p, us, rfl, _, hp, tp⟩ := s.rd b hm
          exact .inl ⟨us, SqL.of hp, tp.length.symm⟩
        · cases hn
      · cases hn
        cases b with
        | scr n r e => exact .inl ⟨_, r, by rw [List.length_map]⟩
        | kscr r => exact .inl ⟨_, r H, by rw [List.length_map]⟩
      · split at hn
        · rename_i hl
          cases hn
          rw [str_of b]
          exact ⟨by rw [line]; exact hl, rfl⟩
        · cases hn
      · cases hn
    · cases h
  · cases h
def fAbs : Mu → List Ar → Option D := fun _ xs => match xs with
  | [.d (.int i)] => some (.int (if i < 0 then -i else i))
  | _ => none
theorem cd_abs : CallD c (fun xs H Q => ∃ i, xs = [.int i] ∧ Q (.int (if i < 0 then -i else i)) H) fAbs := fun H ad mu vs xs z s a h Q q => by
  unfold fAbs at h
  split at h
  · cases h
    obtain ⟨v, rfl, b⟩ := a.one
    rw [int_of b]
    exact ⟨_, rfl, q _ H (.refl _) (.int _)⟩
  · cases h
def fInt : Mu → List Ar → Option D := fun _ xs => match xs with
  | [.d (.int i)] => some (.int i)
  | [.d (.bl b)] => some (.int (if b then 1 else 0))
  | _ => none
theorem cd_int : CallD c (fun xs H Q => (∃ i, xs = [.int i] ∧ Q (.int i) H) ∨ ∃ k, xs = [.bl k] ∧ Q (.int (if k then 1 else 0)) H) fInt := fun H ad mu vs xs z s a h Q q => by
  unfold fInt at h
  split at h
  · cases h
    obtain ⟨v, rfl, b⟩ := a.one
    rw [int_of b]
    exact .inl ⟨_, rfl, q _ H (.refl _) (.int _)⟩
  · cases h
    obtain ⟨v, rfl, b⟩ := a.one
    rw [bl_of b]
    exact .inr ⟨_, rfl, q _ H (.refl _) (.int _)⟩
  · cases h
def fStr : Mu → List Ar → Option D := fun _ xs => match xs with
  | [.d (.int i)] => if i.natAbs.log2 < 1920 then some (.str (toString i)) else none
  | _ => none
theorem cd_str : CallD c (fun xs H Q => ∃ i, xs = [.int i] ∧ i.natAbs.log2 < 1920 ∧ Q (.str (toString i)) H) fStr := fun H ad mu vs xs z s a h Q q => by
  unfold fStr at h
  split at h
  · split at h
    · rename_i hl
      cases h
      obtain ⟨v, rfl, b⟩ := a.one
      rw [int_of b]
      exact ⟨_, rfl, hl, q _ H (.refl _) (.str _)⟩
    · cases h
  · cases h
/-- the items of a list or tuple -/
def itsD (mu : Mu) : Ar → Option (List D)
  | .d (.tup xs) => some xs
  | .d (.lst xs) => some xs
  | .cel n => match mu[n]? with
    | some (.lst xs) => some xs
    | _ => none
  | _ => none
theorem itsD_ok {x : Ar} {ds : List D} (s : Sto c H ad mu) (b : An c H ad v x) (h : itsD mu x = some ds) : ∃ p us, v = .ref p ∧ (SqL c.K H p us ∨ SqT c.K H p us) ∧ Dns c H ad us ds := by
  unfold itsD at h
  split at h
  · cases h
    obtain ⟨p, us, rfl, hp, tp⟩ := tup_of b
    exact ⟨p, us, rfl, .inr hp, tp⟩
  · cases h
    obtain ⟨p, us, rfl, _, hp, _, tp⟩ := lst_of2 b
    exact ⟨p, us, rfl, .inl (SqL.of hp), tp⟩
  · split at h
    · rename_i hm
      cases h
      obtain ⟨p, us, rfl, _, hp, tp⟩ := s.rd b hm
      exact ⟨p, us, rfl, .inl (SqL.of hp), tp⟩
    · cases h
  · cases h
def fList : Mu → List Ar → Option D := fun mu xs => match xs with
  | [x] => match itsD mu x with
    | some ds => some (.lst ds)
    | none => none
  | _ => none
theorem cd_list : CallD c (fun xs H Q => ∃ p ys, xs = [.ref p] ∧ (SqL c.K H p ys ∨ SqT c.K H p ys) ∧ ∀ l, H l = none → Q (.ref l) (upd H l (.lst ys))) fList := fun H ad mu vs xs z s a h Q q => by
  unfold fList at h
  split at h
  · split at h
    · rename_i ds hd
      cases h
      obtain ⟨v, rfl, b⟩ := a.one
      obtain ⟨p, us, rfl, hp, tp⟩ := itsD_ok s b hd
      exact ⟨p, us, rfl, hp, fun l hl => q _ _ (.new hl) (new_lst s hl tp)⟩
    · cases h
  · cases h
def fTuple : Mu → List Ar → Option D := fun mu xs => match xs with
  | [x] => match itsD mu x with
    | some ds => some (.tup ds)
    | none => none
  | _ => none
theorem cd_tuple : CallD c (fun xs H Q => ∃ p ys, xs = [.ref p] ∧ ((SqL c.K H p ys ∧ ∀ l, H l = none → Q (.ref l) (upd H l (.tup ys))) ∨ (SqT c.K H p ys ∧ Q (.ref p) H))) fTuple := fun H ad mu vs xs z s a h Q q => by
  unfold fTuple at h
  split at h
  · split at h
    · rename_i x _ ds hd
      cases h
      obtain ⟨v, rfl, b⟩ := a.one
      unfold itsD at hd
      split at hd
      · cases hd
        obtain ⟨p, us, rfl, hp, tp⟩ := tup_of b
        exact ⟨p, us, rfl, .inr ⟨hp, q _ H (.refl _) (d_of b)⟩⟩
      · cases hd
        obtain ⟨p, us, rfl, _, hp, _, tp⟩ := lst_of2 b
        exact ⟨p, us, rfl, .inl ⟨SqL.of hp, fun l hl => q _ _ (.new hl) (new_tup s hl tp)⟩⟩
      · split at hd
        · rename_i hm
          cases hd
          obtain ⟨p, us, rfl, _, hp, tp⟩ := s.rd b hm
          exact ⟨p, us, rfl, .inl ⟨SqL.of hp, fun l hl => q _ _ (.new hl) (new_tup s hl tp)⟩⟩
        · cases hd
      · cases hd
    · cases h
  · cases h
def fMax2 : Mu → List Ar → Option D := fun _ xs => match xs with
  | [.d (.int i), .d (.int j)] => some (.int (if j > i then j else i))
  | _ => none
theorem cd_max2 : CallD c (fun xs H Q => ∃ i j, xs = [.int i, .int j] ∧ Q (.int (if j > i then j else i)) H) fMax2 := fun H ad mu vs xs z s a h Q q => by
  unfold fMax2 at h
  split at h
  · cases h
    obtain ⟨v, w, rfl, b1, b2⟩ := a.two
    rw [int_of b1, int_of b2]
    exact ⟨_, _, rfl, q _ H (.refl _) (.int _)⟩
  · cases h
def fMin2 : Mu → List Ar → Option D := fun _ xs => match xs with
  | [.d (.int i), .d (.int j)] => some (.int (if j < i then j else i))
  | _ => none
theorem cd_min2 : CallD c (fun xs H Q => ∃ i j, xs = [.int i, .int j] ∧ Q (.int (if j < i then j else i)) H) fMin2 := fun H ad mu vs xs z s a h Q q => by
  unfold fMin2 at h
  split at h
  · cases h
    obtain ⟨v, w, rfl, b1, b2⟩ := a.two
    rw [int_of b1, int_of b2]
    exact ⟨_, _, rfl, q _ H (.refl _) (.int _)⟩
  · cases h
/-- the bools, the ints of a list -/
def blsD : List D → Option (List Bool)
  | [] => some []
  | .bl b :: r => match blsD r with
    | some bs => some (b :: bs)
    | none => none
  | _ :: _ => none
def intsD : List D → Option (List Int)
  | [] => some []
  | .int b :: r => match intsD r with
    | some bs => some (b :: bs)
    | none => none
  | _ :: _ => none
theorem blsD_ok : ∀ {ds : List D} {vs : List V} {bs : List Bool}, Dns c H ad vs ds → blsD ds = some bs → vs = bs.map V.bl
  | [], _, _, .nil, e => by cases e; rfl
  | .bl b :: r, _, _, .cons (.bl _) t, e => by
    unfold blsD at e
    split at e
    · rename_i bs hb
      cases e
      rw [blsD_ok t hb]
      rfl
    · cases e
  | .int _ :: _, _, _, .cons _ _, e => by cases e
  | .non :: _, _, _, .cons _ _, e => by cases e
  | .str _ :: _, _, _, .cons _ _, e => by cases e
  | .tup _ :: _, _, _, .cons _ _, e => by cases e
  | .lst _ :: _, _, _, .cons _ _, e => by cases e
  | .ins _ _ _ :: _, _, _, .cons _ _, e => by cases e
  | .exo _ _ _ :: _, _, _, .cons _ _, e => by cases e
theorem intsD_ok : ∀ {ds : List D} {vs : List V} {bs : List Int}, Dns c H ad vs ds → intsD ds = some bs → vs = bs.map V.int
  | [], _, _, .nil, e => by cases e; rfl
  | .int b :: r, _, _, .cons (.int _) t, e => by
    unfold intsD at e
    split at e
    · rename_i bs hb
      cases e
      rw [intsD_ok t hb]
      rfl
    · cases e
  | .bl _ :: _, _, _, .cons _ _, e => by cases e
  | .non :: _, _, _, .cons _ _, e => by cases e
  | .str _ :: _, _, _, .cons _ _, e => by cases e
  | .tup _ :: _, _, _, .cons _ _, e => by cases e
  | .lst _ :: _, _, _, .cons _ _, e => by cases e
  | .ins _ _ _ :: _, _, _, .cons _ _, e => by cases e
  | .exo _ _ _ :: _, _, _, .cons _ _, e => by cases e
/-- a list (not a tuple) -/
def lstD (mu : Mu) : Ar → Option (List D)
  | .d (.lst xs) => some xs
  | .cel n => match mu[n]? with
    | some (.lst xs) => some xs
    | _ => none
  | _ => none
theorem lstD_ok {x : Ar} {ds : List D} (s : Sto c H ad mu) (b : An c H ad v x) (h : lstD mu x = some ds) : ∃ p us, v = .ref p ∧ H p = some (.lst us) ∧ Dns c H ad us ds := by
  unfold lstD at h
  split at h
  · cases h
    obtain ⟨p, us, rfl, _, hp, _, tp⟩ := lst_of2 b
    exact ⟨p, us, rfl, hp, tp⟩
  · split at h
    · rename_i hm
      cases h
      obtain ⟨p, us, rfl, _, hp, tp⟩ := s.rd b hm
      exact ⟨p, us, rfl, hp, tp⟩
    · cases h
  · cases h
def fAll : Mu → List Ar → Option D := fun mu xs => match xs with
  | [x] => match (lstD mu x).bind blsD with
    | some bs => some (.bl (bs.all id))
    | none => none
  | _ => none
def fAny : Mu → List Ar → Option D := fun mu xs => match xs with
  | [x] => match (lstD mu x).bind blsD with
    | some bs => some (.bl (bs.any id))
    | none => none
  | _ => none
def fSum : Mu → List Ar → Option D := fun mu xs => match xs with
  | [x] => match (lstD mu x).bind intsD with
    | some ns => some (.int ns.sum)
    | none => none
  | _ => none
theorem cd_all : CallD c (rAll c.K) fAll := fun H ad mu vs xs z s a h Q q => by
  unfold fAll at h
  split at h
  · split at h
    · rename_i bs hb
      cases h
      obtain ⟨v, rfl, b⟩ := a.one
      obtain ⟨ds, hd, hb⟩ := Option.bind_eq_some_iff.mp hb
      obtain ⟨p, us, rfl, hp, tp⟩ := lstD_ok s b hd
      have := blsD_ok tp hb
      subst this
      exact ⟨p, bs, rfl, SqL.of hp, q _ H (.refl _) (.bl _)⟩
    · cases h
  · cases h
theorem cd_any : CallD c (rAny c.K) fAny := fun H ad mu vs xs z s a h Q q => by
  unfold fAny at h
  split at h
  · split at h
    · rename_i bs hb
      cases h
      obtain ⟨v, rfl, b⟩ := a.one
      obtain ⟨ds, hd, hb⟩ := Option.bind_eq_some_iff.mp hb
      obtain ⟨p, us, rfl, hp, tp⟩ := lstD_ok s b hd
      have := blsD_ok tp hb
      subst this
      exact ⟨p, bs, rfl, SqL.of hp, q _ H (.refl _) (.bl _)⟩
    · cases h
  · cases h
theorem cd_sum : CallD c (rSum c.K) fSum := fun H ad mu vs xs z s a h Q q => by
  unfold fSum at h
  split at h
  · split at h
    · rename_i bs hb
      cases h
      obtain ⟨v, rfl, b⟩ := a.one
      obtain ⟨ds, hd, hb⟩ := Option.bind_eq_some_iff.mp hb
      obtain ⟨p, us, rfl, hp, tp⟩ := lstD_ok s b hd
      have := intsD_ok tp hb
      subst this
      exact ⟨p, bs, rfl, SqL.of hp, q _ H (.refl _) (.int _)⟩
    · cases h
  · cases h

/-! ### isinstance -/
/-- whether the data is of the built-in type; kc: classes of the text whose instances are not -/
def isTy (kc : List Str) (T : String) : D → Option Bool
  | .non => some false
  | .bl _ => some (T == "bool" || T == "int")
  | .int _ => some (T == "int")
  | .str _ => some (T == "str")
  | .tup _ => some (T == "tuple")
  | .lst _ => some (T == "list")
  | .ins C _ _ => if C ∈ kc then some false else none
  | .exo _ _ _ => none
def isTyA (kc : List Str) (T : String) (mu : Mu) : Ar → Option Bool
  | .d x => isTy kc T x
  | .cel n => match mu[n]? with
    | some (.lst _) => some (T == "list")
    | _ => none
  | _ => none
/-- the built-in types that are served -/
def tys : List String := ["int", "bool", "str", "tuple", "list"]
theorem kb (T : String) (hT : T ∈ tys) : kitB "NoneType" T = some false ∧ kitB "bool" T = some (T == "bool" || T == "int") ∧ kitB "int" T = some (T == "int") ∧ kitB "str" T = some (T == "str") ∧ kitB "tuple" T = some (T == "tuple") ∧ kitB "list" T = some (T == "list") := by
  simp only [tys, List.mem_cons, List.not_mem_nil, or_false] at hT
  rcases hT with rfl | rfl | rfl | rfl | rfl <;> (refine ⟨?_, ?_, ?_, ?_, ?_, ?_⟩ <;> decide +kernel)
/-- what isinstance asks of a class of the text -/
structure ClsI (K : PySem.W.Frag) (C : Addr) : Prop where
  cl : Cls K C
  ha : PySem.W.findIn K (.ref C) "__class__" = some (some (.builtin "object.__class__"))
  hn : PySem.W.specialIn K (.builtin "object.__class__") "__get__" = some (some (.builtin "getset_descriptor.__get__"))
  htk : PySem.W.takesIn K (.builtin "object.__class__") = some true
  hm : PySem.W.mroIn K C (.type "object") = some true
theorem tyx {K : PySem.W.Frag} {p : Addr} {us : List V} (h : Rd H p (.tup us)) : TyX K H (.ref p) (.type "tuple") := by
  rcases h with h | ⟨o, h⟩
  · exact .base (.tup h)
  · exact .fTuple h
/-- the type of data, as isinstance sees it -/
theorem isTy_ok {kc : List Str} {T : String} {x : D} {b : Bool} (hT : T ∈ tys) (hk : ∀ C ∈ kc, ∀ Ca, c.mg C = some (.ref Ca) → ClsI c.K Ca ∧ PySem.W.kitOne c.K (.ref Ca) (.type T) = some false) (a : Dn c H ad v x) (h : isTy kc T x = some b) :
    ∃ t, TyX c.K H v t ∧ PySem.W.kitOne c.K t (.type T) = some b := by
  obtain ⟨k1, k2, k3, k4, k5, k6⟩ := kb T hT
  cases a with
  | non => cases h; exact ⟨_, .base .non, kit_ty k1⟩
  | bl x => cases h; exact ⟨_, .base (.bl x), kit_ty k2⟩
  | int x => cases h; exact ⟨_, .base (.int x), kit_ty k3⟩
  | str x => cases h; exact ⟨_, .base (.str x), kit_ty k4⟩
  | tup n r t => cases h; exact ⟨_, tyx r, kit_ty k5⟩
  | ktup r t =>
    cases h
    obtain ⟨o, its, n, e, hc, _⟩ := r
    exact ⟨_, .kTuple e hc, kit_ty k5⟩
  | lst n r t => cases h; exact ⟨_, .base (.lst r), kit_ty k6⟩
  | @ins a Ca dx fs C ks ds n m e k t =>
    have h' : (if C ∈ kc then some false else none) = some b := h
    split at h'
    · rename_i hin
      cases h'
      obtain ⟨q, kf⟩ := hk C hin Ca m
      exact ⟨_, .base (.ins e q.cl q.ha q.hn q.htk q.hm), kf⟩
    · cases h'
  | exo => cases h
theorem isTyA_ok {kc : List Str} {T : String} {x : Ar} {b : Bool} (hT : T ∈ tys) (hk : ∀ C ∈ kc, ∀ Ca, c.mg C = some (.ref Ca) → ClsI c.K Ca ∧ PySem.W.kitOne c.K (.ref Ca) (.type T) = some false) (s : Sto c H ad mu) (a : An c H ad v x) (h : isTyA kc T mu x = some b) :
    ∃ t, TyX c.K H v t ∧ PySem.W.kitOne c.K t (.type T) = some b := by
  unfold isTyA at h
  split at h
  · exact isTy_ok hT hk (d_of a) h
  · split at h
    · rename_i hm
      cases h
      obtain ⟨p, us, rfl, _, hp, tp⟩ := s.rd a hm
      exact ⟨_, .base (.lst hp), kit_ty (kb T hT).2.2.2.2.2⟩
    · cases h
  · cases h
def mIsi (kc : List Str) (T : String) (e : ME) : ME := fun g mu => (e g mu).bd fun x m => match isTyA kc T m x with
  | some b => .ok (.d (.bl b)) m
  | none => .stuck
theorem de_isi {kc : List Str} {T : String} {Ts : Str} {e : Expr} {m : ME} {p p2 pos : Pos} (hT : T ∈ tys) (hg : Gl X "isinstance") (hm : X.mg "isinstance" = none) (hgT : Gl X Ts) (hmT : X.mg Ts = none) (hvT : bootBuiltins Ts = some (.type T)) (hnT : Ts ≠ "__name__") (hdT : (Ts == ("__debug__" : Str)) = false) (hK : X.K = c.K)
    (hk : ∀ C ∈ kc, ∀ Ca, c.mg C = some (.ref Ca) → ClsI c.K Ca ∧ PySem.W.kitOne c.K (.ref Ca) (.type T) = some false) (he : PE X e (lft c W m))
    (h1 : starEach (e :: [.Name Ts p2]) X.env = (false, eval e X.env) :: starEach [.Name Ts p2] X.env := by rfl) (h2 : starEach (.Name Ts p2 :: []) X.env = (false, eval (.Name Ts p2) X.env) :: starEach [] X.env := by rfl) (hpl : (backTo pos (starEach [.Name Ts p2] X.env)).any (·.1) = false := by rfl) :
    PE X (.Call (.Name "isinstance" p) [e, .Name Ts p2] [] pos) (lft c W (mIsi kc T m)) :=
  (pe_callB call_isi hg hm (by decide +kernel) (pa_cons he (pa_cons (pe_bltn hgT hmT hvT (v := .ty T) rfl hnT hdT) pa_nil h2) h1) (by decide) (by decide) h1 hpl).weak fun σ H Q ⟨g, ad, mu, hS, hT0, o⟩ => by
    refine ⟨g, ad, mu, hS, hT0, OutG.imp (OutG.bd (rel := An c) o) fun v H1 ⟨ad1, mu1, x, ch1, t1, dx, o1⟩ => ?_⟩
    split at o1
    · rename_i b hb
      obtain ⟨t, ht, hkk⟩ := isTyA_ok hT hk t1 dx hb
      rw [hK]
      exact ⟨v, .ty T, t, .type T, b, rfl, .ty T, ht, hkk, o1 _ H1 ad1 (.refl _ _) t1 (.d (.bl b))⟩
    · exact o1.elim
/-- isinstance(x, C), C a class of the text -/
def isCl (C : Str) : D → Option Bool
  | .ins C' _ _ => if C' = C then some true else none
  | .exo _ _ _ => none
  | _ => some false
def mIsiC (C : Str) (e : ME) : ME := fun g mu => (e g mu).bd fun x m => match x with
  | .d x => (match isCl C x with
    | some b => .ok (.d (.bl b)) m
    | none => .stuck)
  | _ => .stuck
theorem de_isiC {C : Str} {Ca : Addr} {e : Expr} {m : ME} {p p2 pos : Pos} (hg : Gl X "isinstance") (hm : X.mg "isinstance" = none) (hgT : Gl X C) (hmT : X.mg C = some (.ref Ca)) (hmc : c.mg C = some (.ref Ca)) (hdT : (C == ("__debug__" : Str)) = false) (hK : X.K = c.K) (hI : ClsI c.K Ca) (hself : PySem.W.kitOne c.K (.ref Ca) (.ref Ca) = some true)
    (hb : ∀ T ∈ ["NoneType", "bool", "int", "str", "tuple", "list"], PySem.W.kitOne c.K (.type T) (.ref Ca) = some false) (he : PE X e (lft c W m))
    (h1 : starEach (e :: [.Name C p2]) X.env = (false, eval e X.env) :: starEach [.Name C p2] X.env := by rfl) (h2 : starEach (.Name C p2 :: []) X.env = (false, eval (.Name C p2) X.env) :: starEach [] X.env := by rfl) (hpl : (backTo pos (starEach [.Name C p2] X.env)).any (·.1) = false := by rfl) :
    PE X (.Call (.Name "isinstance" p) [e, .Name C p2] [] pos) (lft c W (mIsiC C m)) :=
  (pe_callB call_isi hg hm (by decide +kernel) (pa_cons he (pa_cons (pe_glob hgT hmT (v := .ref Ca) rfl hdT) pa_nil h2) h1) (by decide) (by decide) h1 hpl).weak fun σ H Q ⟨g, ad, mu, hS, hT0, o⟩ => by
    refine ⟨g, ad, mu, hS, hT0, OutG.imp (OutG.bd (rel := An c) o) fun v H1 ⟨ad1, mu1, x, ch1, t1, dx, o1⟩ => ?_⟩
    split at o1
    · rename_i x
      split at o1
      · rename_i b hbb
        rw [hK]
        have fin : ∀ t, TyX c.K H1 v t → PySem.W.kitOne c.K t (.ref Ca) = some b → rIsi c.K [v, .ref Ca] H1 Q := fun t ht hkk => ⟨v, .ref Ca, t, .ref Ca, b, rfl, .own Ca, ht, hkk, o1 _ H1 ad1 (.refl _ _) t1 (.d (.bl b))⟩
        have a := d_of dx
        cases a with
        | non => cases hbb; exact fin _ (.base .non) (hb _ (by simp))
        | bl x => cases hbb; exact fin _ (.base (.bl x)) (hb _ (by simp))
        | int x => cases hbb; exact fin _ (.base (.int x)) (hb _ (by simp))
        | str x => cases hbb; exact fin _ (.base (.str x)) (hb _ (by simp))
        | tup n r t => cases hbb; exact fin _ (tyx r) (hb _ (by simp))
        | ktup r t =>
          cases hbb
          obtain ⟨o, its, n, e, hc, _⟩ := r
          exact fin _ (.kTuple e hc) (hb _ (by simp))
        | lst n r t => cases hbb; exact fin _ (.base (.lst r)) (hb _ (by simp))
        | @ins a Ca' dx' fs C' ks ds n m' e k t =>
          have h' : (if C' = C then some true else none) = some b := hbb
          split at h'
          · rename_i hin
            subst hin
            cases h'
            have : Ca' = Ca := by rw [hmc] at m'; cases m'; rfl
            subst this
            exact fin _ (.base (.ins e hI.cl hI.ha hI.hn hI.htk hI.hm)) hself
          · cases h'
        | exo => cases hbb
      · exact o1.elim
    · exact o1.elim

/-! ### len and == by own methods -/
def mLenOwn (C : Str) (F : List Ar → Mu → R Ar) (e : ME) : ME := fun g mu => (e g mu).bd fun x m => match insOf C m x with
  | some _ => (match F [x] m with
    | .ok (.d (.int n)) m1 => if 0 ≤ n ∧ n < 2 ^ 63 then .ok (.d (.int n)) m1 else .stuck
    | _ => .stuck)
  | none => .stuck
theorem ins_at {pins : List (Addr × Obj)} {σ : L2.St} {s : Shared} {a C dx : Addr} {fs : List (Str × V)} (I : Inv X pins σ H s) (e : H a = some (.ins C dx fs)) : ∃ od, PySem.W.InstAt s.heap a (PySem.W.instObj C dx) C (some od) := by
  obtain ⟨mA, O, _⟩ := ins_get I.hok e
  obtain ⟨od, J, _⟩ := O.look
  exact ⟨od, J⟩
theorem callr_lenO {k : Nat} {C f : Addr} {fd : FuncData} {ps : List Str} {sp : Sp} (hs : PySem.W.findIn X.K (.ref C) "__len__" = some (some (.ref f))) (hf : PySem.W.isFn X.K (.ref f) = true) (G : FnOk X.prog X.w X.K X.mg X.base (L2.CX X.prog X.w) k f fd ps sp) (hr : Room (k + 1) X.A) (hb : Binds X.K fd ps []) :
    CallR X (.builtin "len") (fun xs H Q => ∃ a dx fs, xs = [.ref a] ∧ H a = some (.ins C dx fs) ∧ sp [.ref a] H (fun v H2 => ∃ n, v = .int n ∧ (0 ≤ n ∧ n < 2 ^ 63) ∧ Q (.int n) H2) fun _ _ _ => False) := by
  intro pins s σ H xs us Q I r h
  obtain ⟨a, dx, fs, rfl, ha, q⟩ := h
  obtain ⟨u, rfl, ru⟩ := r.one
  cases (show u = Value.ref a from ru)
  obtain ⟨od, J⟩ := ins_at I ha
  obtain ⟨m, hF⟩ := I.fr
  have hl : ([Value.ref a] ++ ([] : List Value)).length = ps.length := by
    rw [← G.len _ _ _ _ q]
    rfl
  refine PySem.W.len_K hF I.ok.mod.kin J hs hf (wpAny_call (codeAny_mono (G.run X.A.in1 X.stack s H ⟨[.ref a], []⟩ [.ref a] [.ref a] _ _ hr.in1 I.env0.in1 (hb s [.ref a] I.kIn hl) (.cons rfl .nil) q) fun r3 s' hq => ?_))
  cases r3 with
  | error u => exact (passL (X := X)) pins σ H s u s' I hq
  | ok fl =>
    cases fl with
    | ret u =>
      obtain ⟨v, H', I3, rv, n, ev, hn, q3⟩ := I.after hq
      subst ev
      obtain ⟨t, e⟩ := (show ∃ t, u = Value.int n t from rv)
      cases e
      exact ⟨hn, ⟨.int n, H', I3.tok _, ⟨_, rfl⟩, q3⟩⟩
    | next => exact False.elim hq
    | brk => exact False.elim hq
    | cont => exact False.elim hq
theorem de_lenO {k : Nat} {C : Str} {Ca f : Addr} {fd : FuncData} {ps : List Str} {F : List Ar → Mu → R Ar} {e : Expr} {me : ME} {p pos : Pos} (hmc : c.mg C = some (.ref Ca)) (hg : Gl X "len") (hm : X.mg "len" = none) (hs : PySem.W.findIn X.K (.ref Ca) "__len__" = some (some (.ref f))) (hf : PySem.W.isFn X.K (.ref f) = true) (G : FnOk X.prog X.w X.K X.mg X.base (L2.CX X.prog X.w) k f fd ps (spOf c 1 F)) (hr : Room (k + 1) X.A) (hb : Binds X.K fd ps [])
    (he : PE X e (lft c W me)) (h1 : starEach (e :: []) X.env = (false, eval e X.env) :: starEach [] X.env := by rfl) (hpl : (backTo pos (starEach [] X.env)).any (·.1) = false := by rfl) : PE X (.Call (.Name "len" p) [e] [] pos) (lft c W (mLenOwn C F me)) :=
  (pe_callB (callr_lenO hs hf G hr hb) hg hm PySem.boot_len (pa_cons he pa_nil h1) (by decide) (by decide) h1 hpl).weak fun σ H Q ⟨g, ad, mu, hS, hT0, o⟩ => by
    refine ⟨g, ad, mu, hS, hT0, OutG.imp (OutG.bd (rel := An c) o) fun v H1 ⟨ad1, mu1, x, ch1, t1, dx, o1⟩ => ?_⟩
    split at o1
    · rename_i ksd hi
      obtain ⟨ks, ds⟩ := ksd
      obtain ⟨q, Ca', dd, fs, rfl, m', e', k', t'⟩ := insOf_ok t1 dx hi
      have : Ca' = Ca := by rw [hmc] at m'; cases m'; rfl
      subst this
      refine ⟨q, dd, fs, rfl, e', rfl, [x], ad1, mu1, .cons dx .nil, t1, ?_⟩
      cases hF : F [x] mu1 with
      | stuck => rw [hF] at o1; exact o1.elim
      | exc C' ks' ds' m2 => rw [hF] at o1; exact o1.elim
      | ok y m2 =>
        rw [hF] at o1
        intro w H2 ad2 ch2 t2 dy
        cases y with
        | cel _ => exact o1.elim
        | scr _ => exact o1.elim
        | exn _ _ => exact o1.elim
        | d y =>
          cases y with
          | int n =>
            simp only at o1
            split at o1
            · rename_i hn
              exact ⟨n, int_of dy, hn, o1 _ H2 ad2 ch2 t2 (.d (.int n))⟩
            · exact o1.elim
          | non => exact o1.elim
          | bl _ => exact o1.elim
          | str _ => exact o1.elim
          | tup _ => exact o1.elim
          | lst _ => exact o1.elim
          | ins _ _ _ => exact o1.elim
          | exo _ _ _ => exact o1.elim
    · exact o1.elim
/-- a == b, a an instance of C with its own method, b another or a tuple -/
def mEqOwn (C : Str) (F : List Ar → Mu → R Ar) (a b : ME) : ME := fun g mu => (a g mu).bd fun x m => (b g m).bd fun y m1 => match insOf C m1 x, y with
  | some _, .d (.tup _) => (match F [x, y] m1 with
    | .ok (.d (.bl r)) m2 => .ok (.d (.bl r)) m2
    | _ => .stuck)
  | some _, .d (.ins C' _ _) => if C' = C then (match F [x, y] m1 with
    | .ok (.d (.bl r)) m2 => .ok (.d (.bl r)) m2
    | _ => .stuck) else .stuck
  | _, _ => .stuck
theorem opr_eqO {k : Nat} {C f : Addr} {fd : FuncData} {ps : List Str} {sp : Sp} (hs : PySem.W.findIn X.K (.ref C) "__eq__" = some (some (.ref f))) (hf : PySem.W.isFn X.K (.ref f) = true) (ht : PySem.W.subIn X.K (.type "tuple") (.ref C) = some false) (G : FnOk X.prog X.w X.K X.mg X.base (L2.CX X.prog X.w) k f fd ps sp) (hr : Room k X.A) (hb : Binds X.K fd ps []) :
    OpR X (compareOp .Eq) (fun x y H Q => ∃ a b dx fs, x = .ref a ∧ y = .ref b ∧ H a = some (.ins C dx fs) ∧ ((∃ us, SqT X.K H b us) ∨ ∃ dy gs, H b = some (.ins C dy gs)) ∧ sp [.ref a, .ref b] H (fun v H2 => ∃ r, v = .bl r ∧ Q (.bl r) H2) fun _ _ _ => False) := by
  intro pins s σ H x y v u Q I rx ry h
  obtain ⟨a, b, dx, fs, rfl, rfl, ha, hbb, q⟩ := h
  cases (show v = Value.ref a from rx)
  cases (show u = Value.ref b from ry)
  obtain ⟨od, J⟩ := ins_at I ha
  obtain ⟨m, hF⟩ := I.fr
  have hl : ([Value.ref a, Value.ref b] ++ ([] : List Value)).length = ps.length := by
    rw [← G.len _ _ _ _ q]
    rfl
  have lk : ∃ tb, PySem.W.Looks (model X.prog X.w) s.heap (typeOf (.ref b)) tb ∧ PySem.W.notFirst X.K C tb = true := by
    rcases hbb with ⟨us, hu⟩ | ⟨dy, gs, hu⟩
    · obtain ⟨its, rv, ⟨o, ho, hc, _⟩, _⟩ := I.tuple hu
      refine ⟨.type "tuple", fun A Q E s k q => wpAny_typeOf_ref (k _ _ ho) (by rw [hc]; exact q), ?_⟩
      unfold PySem.W.notFirst
      rw [ht]
      simp
    · obtain ⟨od2, J2⟩ := ins_at I hu
      refine ⟨.ref C, J2.type, ?_⟩
      unfold PySem.W.notFirst
      simp
  obtain ⟨tb, l1, l2⟩ := lk
  refine PySem.W.cmp_K (op := .Eq) (tb := tb) hr.units0 hF I.ok.mod.kin J l1 l2 hs hf ?_
  refine wpAny_call (codeAny_mono (G.run X.A X.stack s H ⟨[.ref a, .ref b], []⟩ [.ref a, .ref b] [.ref a, .ref b] _ _ hr I.env0 (hb s [.ref a, .ref b] I.kIn hl) (.cons rfl (.cons rfl .nil)) q) fun r3 s' hq => ?_)
  cases r3 with
  | error u => exact (passL (X := X)) pins σ H s u s' I hq
  | ok fl =>
    cases fl with
    | ret u =>
      obtain ⟨v, H', I3, rv, r, ev, q3⟩ := I.after hq
      subst ev
      cases (show u = Value.bool r from rv)
      exact ⟨.bl r, H', I3, rfl, q3⟩
    | next => exact False.elim hq
    | brk => exact False.elim hq
    | cont => exact False.elim hq
theorem eqO_run {C : Str} {Ca : Addr} {F : List Ar → Mu → R Ar} {ma mb : ME} (hmc : c.mg C = some (.ref Ca)) {σ : L2.St} {H : Hp} {Q : VK} (h : lft c W (mEqOwn C F ma mb) σ H Q) :
    tOp (fun x y H Q => ∃ a b dx fs, x = .ref a ∧ y = .ref b ∧ H a = some (.ins Ca dx fs) ∧ ((∃ us, SqT c.K H b us) ∨ ∃ dy gs, H b = some (.ins Ca dy gs)) ∧ spOf c 2 F [.ref a, .ref b] H (fun v H2 => ∃ r, v = .bl r ∧ Q (.bl r) H2) fun _ _ _ => False) (lft c W ma) (lft c W mb) σ H Q := by
  obtain ⟨g, ad, mu, hS, hT, o⟩ := h
  refine ⟨g, ad, mu, hS, hT, OutG.imp (OutG.bd (rel := An c) o) fun v H1 ⟨ad1, mu1, x, ch1, t1, dx, o1⟩ => ?_⟩
  refine ⟨g, ad1, mu1, hS.ch ch1, t1, OutG.imp (OutG.bd (rel := An c) o1) fun w H2 ⟨ad2, mu2, y, ch2, t2, dy, o2⟩ => ?_⟩
  have dx2 := dx.ch ch2
  have fin : ∀ a b, v = .ref a → w = .ref b → OutG c W σ H2 ad2 (An c) (match F [x, y] mu2 with
      | .ok (.d (.bl r)) m2 => .ok (.d (.bl r)) m2
      | _ => .stuck) Q → spOf c 2 F [.ref a, .ref b] H2 (fun v H2 => ∃ r, v = .bl r ∧ Q (.bl r) H2) fun _ _ _ => False := by
    intro a b e1 e2 o3
    subst e1 e2
    refine ⟨rfl, [x, y], ad2, mu2, .cons dx2 (.cons dy .nil), t2, ?_⟩
    cases hF : F [x, y] mu2 with
    | stuck => rw [hF] at o3; exact o3.elim
    | exc C' ks' ds' m2 => rw [hF] at o3; exact o3.elim
    | ok z m3 =>
      rw [hF] at o3
      intro u H3 ad3 ch3 t3 dz
      cases z with
      | cel _ => exact o3.elim
      | scr _ => exact o3.elim
      | exn _ _ => exact o3.elim
      | d z =>
        cases z with
        | bl r => exact ⟨r, bl_of dz, o3 _ H3 ad3 ch3 t3 (.d (.bl r))⟩
        | non => exact o3.elim
        | int _ => exact o3.elim
        | str _ => exact o3.elim
        | tup _ => exact o3.elim
        | lst _ => exact o3.elim
        | ins _ _ _ => exact o3.elim
        | exo _ _ _ => exact o3.elim
  split at o2
  · rename_i ksd ds hi
    obtain ⟨ks, fds⟩ := ksd
    obtain ⟨q, Ca', dd, fs, rfl, m', e', k', t'⟩ := insOf_ok t2 dx2 hi
    have : Ca' = Ca := by rw [hmc] at m'; cases m'; rfl
    subst this
    obtain ⟨p, us, rfl, hp, tp⟩ := tup_of dy
    exact ⟨q, p, dd, fs, rfl, rfl, e', .inl ⟨us, hp⟩, fin q p rfl rfl o2⟩
  · rename_i ksd C' ks2 ds2 hi
    split at o2
    · rename_i hCC
      subst hCC
      obtain ⟨ks, fds⟩ := ksd
      obtain ⟨q, Ca', dd, fs, rfl, m', e', k', t'⟩ := insOf_ok t2 dx2 hi
      have : Ca' = Ca := by rw [hmc] at m'; cases m'; rfl
      subst this
      cases d_of dy with
      | @ins b Cb db gs _ _ _ nb mb eb kb tb =>
        have : Cb = Ca' := by rw [hmc] at mb; cases mb; rfl
        subst this
        exact ⟨q, b, dd, fs, rfl, rfl, e', .inr ⟨db, gs, eb⟩, fin q b rfl rfl o2⟩
    · exact o2.elim
  · exact o2.elim
theorem de_eqO {k : Nat} {C : Str} {Ca f : Addr} {fd : FuncData} {ps : List Str} {F : List Ar → Mu → R Ar} {a b : Expr} {ma mb : ME} {pos : Pos} (hmc : c.mg C = some (.ref Ca)) (hK : X.K = c.K) (hs : PySem.W.findIn X.K (.ref Ca) "__eq__" = some (some (.ref f))) (hf : PySem.W.isFn X.K (.ref f) = true) (ht : PySem.W.subIn X.K (.type "tuple") (.ref Ca) = some false) (G : FnOk X.prog X.w X.K X.mg X.base (L2.CX X.prog X.w) k f fd ps (spOf c 2 F)) (hr : Room k X.A) (hb : Binds X.K fd ps [])
    (ha : PE X a (lft c W ma)) (hbb : PE X b (lft c W mb)) : PE X (.Compare a [.Eq] [b] pos) (lft c W (mEqOwn C F ma mb)) :=
  (pe_cmpR (opr_eqO hs hf ht G hr hb) ha hbb (nomark _)).weak fun σ H Q h => by
    rw [hK]
    exact eqO_run hmc h
theorem dt_eqO {k : Nat} {C : Str} {Ca f : Addr} {fd : FuncData} {ps : List Str} {F : List Ar → Mu → R Ar} {a b : Expr} {ma mb : ME} {pos : Pos} (hmc : c.mg C = some (.ref Ca)) (hK : X.K = c.K) (hs : PySem.W.findIn X.K (.ref Ca) "__eq__" = some (some (.ref f))) (hf : PySem.W.isFn X.K (.ref f) = true) (ht : PySem.W.subIn X.K (.type "tuple") (.ref Ca) = some false) (G : FnOk X.prog X.w X.K X.mg X.base (L2.CX X.prog X.w) k f fd ps (spOf c 2 F)) (hr : Room k X.A) (hb : Binds X.K fd ps [])
    (ha : PE X a (lft c W ma)) (hbb : PE X b (lft c W mb)) : PT X (.Compare a [.Eq] [b] pos) (lftT c W (mB (mEqOwn C F ma mb))) :=
  (pt_cmpR (opr_eqO hs hf ht G hr hb) ha hbb (nomark _)).weak fun σ H Q q => by
    rw [hK]
    exact eqO_run hmc (tB_run q)
end
end Dw
namespace Dw
open PySem PySem.Spec PyProof.Rows L2
theorem tup_mul1 (l : Addr) (items : Array Value) (n : Nat) (dd : Option Addr) (sl : Array (Option Value)) (x : Int) (u : Tok) (c0 : (decide (x < -(2 ^ 63)) || decide (x ≥ 2 ^ 63)) = false) (c1 : (items.isEmpty || x == 1) = true) :
    Meets (Builtin.«tuple.__mul__» ⟨[.ref l, .int x u], []⟩) (fun _ R s => s.heap.get? l = some { cls := .type "tuple", dict := dd, data := .seq items n, slots := sl } ∧ R (.ok (.ret (Value.ref l))) s) :=
  .of_wp fun prog w A R s h => by
    obtain ⟨hp, g, d, tk, os⟩ := s
    obtain ⟨hl, h⟩ := h
    have f1 := AutoSeq1.idx_int
    wp_walk using wpAny_loadPart' hl
    repeat (first
      | (refine wpAny_ite_false (decide_eq_false (by rw [c0]; exact Bool.false_ne_true)) ?_; wp_walk using wpAny_loadPart' hl)
      | (refine wpAny_ite_true (decide_eq_true (by rw [c1])) ?_; wp_walk using wpAny_loadPart' hl))
    exact ⟨_, rfl, h⟩
section
variable {X : Cx} {c : Ct} {W : WX}
/-- t * 1, () * k: the same tuple -/
def rRep1 (K : PySem.W.Frag) : R2 := fun x y H Q => ∃ l k xs, x = .ref l ∧ y = .int k ∧ SqT K H l xs ∧ (xs = [] ∨ k = 1) ∧ -(2 ^ 63) ≤ k ∧ k < 2 ^ 63 ∧ Q (.ref l) H
theorem op_rep1 : OpR X (binaryOp .Mult) (rRep1 X.K) := by
  intro pins s σ H x y v u Q I rx ry h
  obtain ⟨l, k, xs, rfl, rfl, hT, hk, h1, h2, q⟩ := h
  cases (show v = Value.ref l from rx)
  obtain ⟨t, e⟩ := (show ∃ t, u = Value.int k t from ry)
  cases e
  obtain ⟨its, r, ⟨⟨cls, dd, data, sl⟩, ho, hc, n, hd⟩, hs⟩ := I.tuple hT
  simp only at hc hd
  subst hc hd
  have c0 : (decide (k < -(2 ^ 63)) || decide (k ≥ 2 ^ 63)) = false := by
    rw [decide_eq_false (by omega), decide_eq_false (by omega)] <;> rfl
  have c1 : (its.toArray.isEmpty || k == 1) = true := by
    rcases hk with rfl | rfl
    · cases r
      rfl
    · simp
  refine wpAny_binaryOp_repeat_ref (T := "tuple") (U := "int") (by decide) ⟨_, ho, rfl⟩ (fun s' => typeIs_int s' k t) noFill_tuple_mul F.fills_int_mul F.slot_int_rmul repeat_tuple F.slot_int_index.lookup
    (call_meets F.slot_int_rmul (typeIs_int s k t) F.entry_int_rmul (F.args_int_rmul_2 _ _) (int_rmul_tuple k t l its.toArray n dd sl)
      ⟨ho, rfl, ⟨_, ho, rfl⟩, call_meets F.slot_tuple_mul ⟨_, ho, rfl⟩ F.entry_tuple_mul (F.args_tuple_mul_2 _ _) (tup_mul1 l its.toArray n dd sl k t c0 c1) ⟨ho, ?_⟩⟩)
  exact ⟨.ref l, H, I, rfl, q⟩
def rMulA (K : PySem.W.Frag) : R2 := fun x y H Q => (rI CMul fun i j => .int (i * j)) x y H Q ∨ (rRep1 K x y H Q ∨ (rRepT K x y H Q ∨ rRep x y H Q))
theorem op_mulA : OpR X (binaryOp .Mult) (rMulA X.K) := op_mul.or (op_rep1.or (op_repT.or op_rep))
def fMulA : Mu → Ar → Ar → Option D := fun _ x y => match x, y with
  | .d (.int i), .d (.int j) => if CMul i j then some (.int (i * j)) else none
  | .d (.tup xs), .d (.int k) => if xs.length = 0 ∨ k = 1 then (if -(2 ^ 63) ≤ k ∧ k < 2 ^ 63 then some (.tup xs) else none) else if 2 ≤ k ∧ k ≤ 1000 ∧ xs.length ≤ 1000 then some (.tup (List.replicate k.toNat xs).flatten) else none
  | .d (.lst xs), .d (.int k) => if -(2 ^ 63) ≤ k ∧ k < 2 ^ 63 ∧ xs.length * k.toNat ≤ 16777216 then some (.lst (List.replicate k.toNat xs).flatten) else none
  | _, _ => none
theorem od_mulA : OpD c (rMulA c.K) fMulA := fun H ad mu v w x y z s a b h Q q => by
  unfold fMulA at h
  split at h
  · split at h
    · rename_i hc
      cases h
      rw [int_of a, int_of b]
      exact .inl ⟨_, _, rfl, rfl, hc, q _ H (.refl _) (.int _)⟩
    · cases h
  · rename_i xs k
    obtain ⟨p, us, rfl, hp, tp⟩ := tup_of a
    rw [int_of b]
    split at h
    · rename_i hc
      split at h
      · rename_i hk
        cases h
        refine .inr (.inl ⟨p, k, us, rfl, rfl, hp, ?_, hk.1, hk.2, q _ H (.refl _) (d_of a)⟩)
        rcases hc with e | e
        · exact .inl (List.eq_nil_of_length_eq_zero (tp.length.trans e))
        · exact .inr e
      · cases h
    · rename_i hc
      split at h
      · rename_i hk
        cases h
        refine .inr (.inr (.inl ⟨p, k, us, rfl, rfl, hp, fun e => ?_, hk.1, hk.2.1, by rw [tp.length]; exact hk.2.2, fun r hr => q _ _ (.new hr) (new_tup s hr (tp.rep _))⟩))
        subst e
        cases tp
        exact hc (.inl rfl)
      · cases h
  · split at h
    · rename_i xs k hk
      cases h
      obtain ⟨p, us, rfl, _, hp, _, tp⟩ := lst_of2 a
      rw [int_of b]
      exact .inr (.inr (.inr ⟨p, k, us, rfl, rfl, hp, hk.1, hk.2.1, by rw [tp.length, line]; exact hk.2.2, fun r hr => q _ _ (.new hr) (new_lst s hr (tp.rep _))⟩))
    · cases h
  · cases h
end
end Dw
namespace Dw
open PySem PySem.Spec PyProof.Rows L2
section
variable {X : Cx} {c : Ct} {W : WX}
theorem suite_of {cls : Value} {Ca : Addr} {sts : List Stmt} {t : TS} (h : cls = .ref Ca → PSs X sts t) : PSs X sts (fun D σ H => cls = .ref Ca ∧ t D σ H) := ⟨fun pins s σ H D I ⟨e, q⟩ => (h e).run pins s σ H D I q⟩
theorem cls_at {C : Str} {cls : Value} {Ca : Addr} (h : ∃ C', C' = C ∧ c.mg C' = some cls) (hm : c.mg C = some (.ref Ca)) : cls = .ref Ca := by
  obtain ⟨C', rfl, e⟩ := h
  rw [hm] at e
  cases e
  rfl
/-! slices of anything -/
theorem SlD.or {r r' : V → Option Int → Option Int → Hp → VK → Prop} {f f' : Mu → Ar → Option Int → Option Int → Option D} (h : SlD c r f) (h' : SlD c r' f') : SlD c (fun x lo hi H Q => r x lo hi H Q ∨ r' x lo hi H Q) (fun mu x lo hi => match f mu x lo hi with
    | some z => some z
    | none => f' mu x lo hi) := fun H ad mu v x lo hi z s a e Q q => by
  cases e1 : f mu x lo hi with
  | some y0 =>
    simp only [e1] at e
    cases e
    exact .inl (h H ad mu v x lo hi _ s a e1 Q q)
  | none =>
    simp only [e1] at e
    exact .inr (h' H ad mu v x lo hi z s a e Q q)
def fSlA : Mu → Ar → Option Int → Option Int → Option D := fun mu x lo hi => match fSl mu x lo hi with
  | some z => some z
  | none => fSlT mu x lo hi
def rSlAny (K : PySem.W.Frag) : V → Option Int → Option Int → Hp → VK → Prop := fun x lo hi H Q => Dw.rSlS K x lo hi H Q ∨ L2.rSlS x lo hi H Q
theorem sd_any : SlD c (rSlAny c.K) fSlA := SlD.or sd_seq sd_txt
theorem sl_any : SlR X (rSlAny X.K) := sl_seq.or sl_str
/-! a flat x in a list or tuple -/
def flatD : D → Bool
  | .non => true
  | .bl _ => true
  | .int _ => true
  | .str _ => true
  | _ => false
theorem flat_ok {H : Hp} {ad : List Addr} {v : V} {x : D} (a : Dn c H ad v x) (h : flatD x = true) : flatV v = true := by
  cases a <;> first | rfl | cases h
theorem eqV_ok {H : Hp} {ad : List Addr} {v w : V} {x y : D} (a : Dn c H ad v x) (b : Dn c H ad w y) (h : flatD x = true) (h' : flatD y = true) : eqV v w = deq x y := by
  cases a <;> first | (cases h; done) | (cases b <;> first | (cases h'; done) | (simp [eqV, deq]))
def inD (x : D) (xs : List D) : Bool := xs.any fun y => deq y x
theorem flats_ok {H : Hp} {ad : List Addr} : ∀ {vs : List V} {ds : List D}, Dns c H ad vs ds → ds.all flatD = true → vs.all flatV = true
  | _, _, .nil, _ => rfl
  | _, _, .cons a t, h => by
    rw [List.all_cons, Bool.and_eq_true] at h
    rw [List.all_cons, flat_ok a h.1, flats_ok t h.2]
    rfl
theorem inV_ok {H : Hp} {ad : List Addr} {v : V} {x : D} (a : Dn c H ad v x) (hx : flatD x = true) : ∀ {vs : List V} {ds : List D}, Dns c H ad vs ds → ds.all flatD = true → inV v vs = inD x ds
  | _, _, .nil, _ => rfl
  | _, _, .cons b t, h => by
    rw [List.all_cons, Bool.and_eq_true] at h
    show ((eqV _ v) || inV v _) = ((deq _ x) || inD x _)
    rw [eqV_ok b a h.1 hx, inV_ok a hx t h.2]
def fIn (neg : Bool) : Mu → Ar → Ar → Option D := fun mu x y => match x, itsD mu y with
  | .d x, some ds => if flatD x = true ∧ ds.all flatD = true then some (.bl (inD x ds != neg)) else none
  | _, _ => none
theorem od_inG {neg : Bool} : OpD c (rIn c.K neg) (fIn neg) := fun H ad mu v w x y z s a b h Q q => by
  unfold fIn at h
  split at h
  · split at h
    · rename_i x1 ds hi hc
      cases h
      obtain ⟨p, us, rfl, hp, tp⟩ := itsD_ok s b hi
      refine ⟨p, us, rfl, hp, flat_ok (d_of a) hc.1, flats_ok tp hc.2, q _ H (.refl _) ?_⟩
      rw [inV_ok (d_of a) hc.1 tp hc.2]
      cases neg with
      | true => rw [Bool.bne_true, if_pos rfl]; exact .bl _
      | false => rw [Bool.bne_false, if_neg (by decide)]; exact .bl _
    · cases h
  · cases h
theorem od_in : OpD c (rIn c.K false) (fIn false) := od_inG
theorem od_notIn : OpD c (rIn c.K true) (fIn true) := od_inG
/-! for over a list that is changed in place, read anew at each turn -/
def forC (n : Nat) (t : MG) (b : MS) : Nat → Nat → Gm → Mu → RS
  | 0, _, _, _ => .stuck
  | f + 1, k, g, m => match m[n]? with
    | some (.lst xs) => (match xs[k]? with
      | none => .nx g m
      | some d => (match t (.d d) g with
        | none => .stuck
        | some g1 => (match b g1 m with
          | .nx g2 m2 => forC n t b f (k + 1) g2 m2
          | .ct g2 m2 => forC n t b f (k + 1) g2 m2
          | .bk g2 m2 => .nx g2 m2
          | .rt x m2 => .rt x m2
          | .exc C ks es g2 m2 => .exc C ks es g2 m2
          | .stuck => .stuck)))
    | _ => .stuck
def mForC (f : Nat) (e : ME) (t : MG) (b : MS) : MS := fun g mu => (e g mu).st g fun x m => match x with
  | .cel n => forC n t b f 0 g m
  | _ => .stuck
theorem forC_run {f : Nat} {me : ME} {t : TG} {mt : MG} {mb : MS} (hd : GD c wAny t mt) {D : Ends} {σ : L2.St} {H : Hp} (h : lftS c W (mForC f me mt mb) D σ H) : tFor (iList c.K (lft c W me)) t (lftS c W mb) D σ H := by
  obtain ⟨g, ad, mu, hS, hT, o⟩ := h
  refine ⟨g, ad, mu, hS, hT, OutG.imp (OutS.bd (rel := An c) hS o) fun v H1 ⟨ad1, mu1, x, ch1, t1, dx, o1⟩ => ?_⟩
  split at o1
  · rename_i n
    obtain ⟨a, rfl, ea⟩ := cel_of dx
    obtain ⟨cl0, hm0, hc0⟩ := t1.cl ea
    have fpos : ∃ xs, mu1[n]? = some (.lst xs) := by
      cases f with
      | zero => exact o1.elim
      | succ f =>
        unfold forC at o1
        split at o1
        · exact ⟨_, by assumption⟩
        · exact o1.elim
    obtain ⟨xs0, hxs0⟩ := fpos
    obtain ⟨p0, us0, e0, _, hp0, tp0⟩ := t1.rd dx hxs0
    cases e0
    refine ⟨a, rfl, ⟨us0, SqL.of hp0⟩, fun i m σ2 H2 => ∃ g2 ad2 mu2, Ch H1 ad1 H2 ad2 ∧ Sl c H2 ad2 σ2 g2 ∧ Sto c H2 ad2 mu2 ∧ ad2[n]? = some a ∧ OutS c W H2 ad2 (forC n mt mb m i g2 mu2) D, ⟨f, g, ad1, mu1, .refl _ _, hS.ch ch1, t1, ea, o1⟩, ?_⟩
    rintro i m σ2 H2 ⟨g2, ad2, mu2, ch2, s2, t2, ea2, o2⟩
    cases m with
    | zero => exact o2.elim
    | succ m =>
      unfold forC at o2
      split at o2
      · rename_i xs hxs
        obtain ⟨p1, us, e1, _, hp1, tp1⟩ := t2.rd (.cel ea2) hxs
        cases e1
        split at o2
        · rename_i hk
          refine .inl ⟨⟨us, SqL.of hp1, ?_⟩, o2 σ2 H2 ad2 (.refl _ _) s2 t2⟩
          rw [tp1.length]
          exact List.getElem?_eq_none_iff.mp hk
        · rename_i d hk
          obtain ⟨u, hu, du⟩ := tp1.get hk
          refine .inr ⟨⟨us, u, SqL.of hp1, hu⟩, fun σ' H' => ∃ g2 ad2 mu2, Ch H1 ad1 H' ad2 ∧ Sl c H' ad2 σ' g2 ∧ Sto c H' ad2 mu2 ∧ ad2[n]? = some a ∧ OutS c W H' ad2 (forC n mt mb m (i + 1) g2 mu2) D, fun σ' H' q => ⟨m, Nat.lt_succ_self _, q⟩, fun y H3 ⟨e3, hy⟩ => ?_⟩
          subst e3
          have := hy us (SqL.of hp1)
          rw [hu] at this
          cases this
          split at o2
          · exact o2.elim
          · rename_i g3 hg3
            refine hd H3 ad2 _ _ σ2 g2 g3 (.d du) s2 hg3 _ fun σ3 s3 _ => ⟨g3, ad2, mu2, s3, t2, ?_⟩
            have keep : ∀ {H' : Hp} {ad' : List Addr}, Ch H3 ad2 H' ad' → ad'[n]? = some a := fun {H' ad'} ch => by
              obtain ⟨tt, rfl, _⟩ := ch.pre
              rw [List.getElem?_append_left (List.getElem?_eq_some_iff.mp ea2).1]
              exact ea2
            cases hb : mb g3 mu2 with
            | nx g4 m4 =>
              simp only [hb] at o2
              exact fun σ' H' ad' a' b d => ⟨g4, ad', m4, ch2.trans a', b, d, keep a', OutS.mv a' o2⟩
            | ct g4 m4 =>
              simp only [hb] at o2
              exact fun σ' H' ad' a' b d => ⟨g4, ad', m4, ch2.trans a', b, d, keep a', OutS.mv a' o2⟩
            | bk g4 m4 =>
              simp only [hb] at o2
              exact fun σ' H' ad' a' b d => o2 σ' H' ad' a' b d
            | rt x m4 =>
              simp only [hb] at o2
              exact fun v H' ad' a' b d => o2 v H' ad' a' b d
            | exc C ks es g4 m4 => simp only [hb] at o2; exact o2
            | stuck => simp only [hb] at o2; exact o2
      · exact o2.elim
  · exact o1.elim
theorem ds_forC {f : Nat} {tg iter : Expr} {body : List Stmt} {me : ME} {t : TG} {mt : MG} {mb : MS} {pos : Pos} (hp : PassesOwn (model X.prog X.w) X.A X.env X.xe) (hc : X.calm = true) (hK : X.K = c.K) (hi : PE X iter (lft c W me)) (hg : PG X tg t) (hd : GD c wAny t mt) (hb : PSs X body (lftS c W mb))
    (hs : ∀ x, foldedSetIterable iter X.env x = pure x := by intro _; rfl) : PS X (.For tg iter body [] pos) (lftS c W (mForC f me mt mb)) :=
  (ps_for hp hc (pi_list hi) hg hb hs).weak fun D σ H h => by
    rw [hK]
    exact forC_run hd h
end
/-- a def of which nothing is asked -/
theorem fn_stuck {P : Program} {w : World} {K : PySem.W.Frag} {mg : Str → Option Value} {base : Heap} {c : Ct} {k : Nat} {f : Addr} {fd : FuncData} {ps : List Str} {n : Nat} : FnOk P w K mg base (L2.CX P w) k f fd ps (spOf c n fun _ _ => .stuck) :=
  ⟨fun vs H Q E ⟨_, _, _, _, _, _, o⟩ => o.elim, fun A outer s H args us vs Q E _ _ _ _ ⟨_, _, _, _, _, _, o⟩ => o.elim⟩
/-- a comprehension within a comprehension's block -/
theorem blkOk_in {N : List Str} {sc S scope : Scope} {own : List (Str × Nat)} {cl : List (Str × Addr)} {C : Addr} {env : Env} (he : env.scope = sc) (h : blkC N (relS S sc) scope own = true) : BlkOk N (compEnvC S cl C env).scope scope own := by
  have e : (compEnvC S cl C env).scope = relS S sc := by
    subst he
    rfl
  rw [e]
  exact blkOk_by h
end Dw
/-! operators whose fresh list is a cell -/
namespace Dw
open PySem PySem.Spec PyProof.Rows L2
section
variable {X : Cx} {c : Ct} {W : WX}
def mBinC (f : Mu → Ar → Ar → Option (List D)) (a b : ME) : ME := fun g mu => (a g mu).bd fun x mu1 => (b g mu1).bd fun y mu2 => match f mu2 x y with
  | some zs => .ok (.cel mu2.length) (mu2 ++ [.lst zs])
  | none => .stuck
@[simp] theorem mBinC_ap (f : Mu → Ar → Ar → Option (List D)) (a b : ME) (g : Gm) (mu : Mu) : mBinC f a b g mu = (a g mu).bd fun x mu1 => (b g mu1).bd fun y mu2 => match f mu2 x y with
  | some zs => .ok (.cel mu2.length) (mu2 ++ [.lst zs])
  | none => .stuck := rfl
def OpC (c : Ct) (r : R2) (f : Mu → Ar → Ar → Option (List D)) : Prop :=
  ∀ (H : Hp) (ad : List Addr) (mu : Mu) (v w : V) (x y : Ar) (zs : List D), Sto c H ad mu → An c H ad v x → An c H ad w y → f mu x y = some zs → ∀ Q : VK, (∀ p vs, H p = none → Dns c H ad vs zs → Q (.ref p) (upd H p (.lst vs))) → r v w H Q
theorem de_binC {op : Operator} {r : R2} {f : Mu → Ar → Ar → Option (List D)} {a b : Expr} {ma mb : ME} {pos : Pos} (ho : OpR X (binaryOp op) r) (hf : OpC c r f) (ha : PE X a (lft c W ma)) (hb : PE X b (lft c W mb)) : PE X (.BinOp a op b pos) (lft c W (mBinC f ma mb)) :=
  (pe_op ho ha hb).weak fun σ H Q h => by
    obtain ⟨g, ad, mu, hS, hT, o⟩ := h
    refine ⟨g, ad, mu, hS, hT, OutG.imp (OutG.bd (rel := An c) o) fun v H1 ⟨ad1, mu1, x, ch1, t1, dx, o1⟩ => ?_⟩
    refine ⟨g, ad1, mu1, hS.ch ch1, t1, OutG.imp (OutG.bd (rel := An c) o1) fun w H2 ⟨ad2, mu2, y, ch2, t2, dy, o2⟩ => ?_⟩
    cases hz : f mu2 x y with
    | none => rw [hz] at o2; exact o2.elim
    | some z =>
      rw [hz] at o2
      exact hf H2 ad2 mu2 v w x y z t2 (dx.ch ch2) dy hz Q fun p vs hp t => o2 _ _ (ad2 ++ [p]) (.new hp) (new_cell t2 hp t).1 (new_cell t2 hp t).2
def fCatC : Mu → Ar → Ar → Option (List D) := fun mu x y => match lstD mu x, lstD mu y with
  | some xs, some ys => if xs.length + ys.length ≤ 16777216 then some (xs ++ ys) else none
  | _, _ => none
theorem oc_cat : OpC c rCat fCatC := fun H ad mu v w x y zs s a b h Q q => by
  unfold fCatC at h
  split at h
  · rename_i xs ys e1 e2
    split at h
    · rename_i hl
      cases h
      obtain ⟨p, us, rfl, hp, tp⟩ := lstD_ok s a e1
      obtain ⟨p2, us2, rfl, hp2, tp2⟩ := lstD_ok s b e2
      exact ⟨p, p2, us, us2, rfl, rfl, hp, hp2, by rw [tp.length, tp2.length, line]; exact hl, fun r hr => q r _ hr (tp.append tp2)⟩
    · cases h
  · cases h
def fRepC : Mu → Ar → Ar → Option (List D) := fun mu x y => match lstD mu x, y with
  | some xs, .d (.int k) => if -(2 ^ 63) ≤ k ∧ k < 2 ^ 63 ∧ xs.length * k.toNat ≤ 16777216 then some (List.replicate k.toNat xs).flatten else none
  | _, _ => none
theorem oc_rep : OpC c rRep fRepC := fun H ad mu v w x y zs s a b h Q q => by
  unfold fRepC at h
  split at h
  · rename_i xs k e1
    split at h
    · rename_i hk
      cases h
      obtain ⟨p, us, rfl, hp, tp⟩ := lstD_ok s a e1
      rw [int_of b]
      exact ⟨p, k, us, rfl, rfl, hp, hk.1, hk.2.1, by rw [tp.length, line]; exact hk.2.2, fun r hr => q r _ hr (tp.rep _)⟩
    · cases h
  · cases h
end
end Dw
/-! exceptions of the text as values: made, read, asked by isinstance -/
namespace PySem.W
open PySem PySem.Spec PySem.Calls PyProof.Rows
section
variable {prog : Program} {w : World} {A : Around} {E : Value → Shared → Prop} {s : Shared} {K : Frag} {x D : Addr} {ox : Obj} {od : Option Obj}
theorem dw_find (C : L2.ExcC K D) : findObj K D od "__class__" = some (.bind (.builtin "getset_descriptor.__get__") (.builtin "object.__class__")) := by
  obtain ⟨cd, hc, _⟩ := any_some C.hd
  unfold findObj
  rw [hc, Option.bind_some, C.ha, Option.bind_some]
  simp [C.hn, C.ht]
theorem dw_class {Q : Option Value → Shared → Prop} (C : L2.ExcC K D) (X : K.In s.heap) (I : InstAt s.heap x ox D od) (q : Q (some (.ref D)) { s with toks := s.toks + 1 }) : wpAny (model prog w) A (getAttr? (.ref x) "__class__") Q E s := by
  obtain ⟨hp, g, d, t, os⟩ := s
  have T0 := I.type (M := model prog w)
  have G1 := looks_findIn (M := model prog w) X C.hg
  have G2 := looks_findIn (M := model prog w) X C.hk
  have G3 := looks_find (M := model prog w) X I (dw_find C)
  have sb : Looks (model prog w) hp (isInstance (.ref x) (.type "BaseException")) true :=
    T0.andThen (looks_subIn X C.hs)
  have n2 : (Value.builtin "BaseException.__getattribute__" == Value.builtin "object.__getattribute__") = false := by
    decide +kernel
  have n1 : (onTheHeap (Value.ref D) && Value.builtin "BaseException.__getattribute__" == Value.builtin "object.__getattribute__") = false := by
    rw [n2]; rfl
  have n0 : (false && onTheHeap (Value.builtin "BaseException.__getattribute__")) = false := rfl
  unfold getAttr? getAttrBy? getAttrBy
  refine wpAny_bind (wpAny_mkText ?_)
  refine wpAny_bind (wpAny_attempt (wpAny_holding ?_))
  refine wpAny_bind (T0.at (wpAny_bind (G1.at ?_)))
  show wpAny _ _ (if (onTheHeap (Value.ref D) && Value.builtin "BaseException.__getattribute__" == Value.builtin "object.__getattribute__") = true then _ else _)
    _ _ _
  rw [n1, if_neg Bool.false_ne_true]
  unfold getAttrByItsOwn
  unfold hookBefore
  refine wpAny_bind ?_
  rw [if_pos (show onTheHeap (Value.ref D) = true from rfl)]
  refine G2.at (wpAny_bind (wpAny_attempt (wpAny_holding ?_)))
  unfold callGetattribute
  rw [n0, if_neg Bool.false_ne_true]
  unfold boundAndCalled
  rw [F.excAttr_ValueError.ga.bind (.ref x)]
  refine wpAny_bind (wpAny_pure ?_)
  show wpAny _ _
    (call (.builtin "BaseException.__getattribute__") [.ref x, .str "__class__" t]) _ _ _
  refine wpAny_call (codeAny_call_builtin F.excAttr_ValueError.ga.plain F.entry_bexc_ga ?_)
  refine @check_slot (model prog w) _ _ ⟨hp, g, d, t + 1, os⟩ "BaseException.__getattribute__" "BaseException" "__getattribute__" (.ref x) [.str "__class__" t] []
    _ (by decide +kernel) (by decide +kernel) sb (F.args_bexc_ga (.ref x) (.str "__class__" t)) ?_
  unfold Builtin.«object.__getattribute__»
  refine wpAny_bind (wpAny_of_eq (a := ((Value.ref x : Value), [Value.str "__class__" t])) (by
    first
      | rfl
      | (simp only [slotArgs]; rfl)) ?_)
  refine wpAny_bind (wpAny_pure (wpAny_bind (T0.at (wpAny_bind (G3.at ?_)))))
  show wpAny _ _
    (holding [Value.builtin "object.__class__"] (call (.builtin "getset_descriptor.__get__") [.builtin "object.__class__", .ref x, .ref D]) >>= ret) _ _ _
  refine wpAny_bind (wpAny_holding (wpAny_call (class_get (s := ⟨hp, g, d, t + 1, os⟩) (ox := ox) (od := od) X I C.hm (wpAny_pure ?_))))
  show wpAny _ _
    (handedOut (.ref D)) _ _ _
  rw [handedOut_of (v := .ref D) rfl]
  first
    | exact wpAny_pure (wpAny_pure q)
    | exact wpAny_pure q
    | exact wpAny_pure (wpAny_bind (wpAny_pure (wpAny_pure q)))
theorem dw_cls (hd : hasDictIn K D = true) : ∃ c d cd sl, K.lookup D = some ⟨c, d, .cls cd, sl⟩ := by
  obtain ⟨cd, hc, _⟩ := any_some hd
  unfold clsIn at hc
  split at hc
  · exact ⟨_, _, _, _, ‹_›⟩
  · cases hc
theorem dw_kitx (C : L2.ExcC K D) : KitX K (.ref x) (.ref D) (fun h => ∃ od, InstAt h x ox D od) where
  ty := fun _ _ _ ⟨_, I⟩ => I.type
  it := fun M h X _ => by
    obtain ⟨c, d, cd, sl, ho⟩ := dw_cls C.hd
    intro A' Q' E' s' k q
    unfold isType
    unfold loadHead
    exact wpAny_bind (wpAny_loadPart (k _ _ (X _ _ ho)) (wpAny_pure q))
  ne := fun h tp dd its n sl X htp => by
    obtain ⟨c, d, cd, sl2, ho⟩ := dw_cls C.hd
    cases e : (Value.ref D == Value.ref tp) with
    | false => rfl
    | true =>
      have e2 : D = tp := Value.ref.inj (beq_iff_eq.mp e)
      rw [← e2, X _ _ ho] at htp
      cases htp
  ca := fun X ⟨_, I⟩ k => dw_class C X I k
end
end PySem.W

namespace L2
open PySem PySem.Spec PyProof.Rows
section
variable {X : Cx}
/-- at a stands an exception of the class at D, its dict at dx -/
theorem xo_inst {pins : List (Addr × Obj)} {σ : L2.St} {H : Hp} {s : Shared} {a D dx : Addr} {fs : List (Str × V)} (I : Inv X pins σ H s) (ha : H a = some (exo a D (some dx))) (hd : H dx = some (exd dx fs)) :
    ∃ (ox od : Obj) (mA : Str → Option Value), PySem.W.InstAt s.heap a ox D (some od) ∧ (∀ f, RelO (fs.lookup f) (mA f)) ∧ s.heap.Ns1 dx mA ∧ s.heap.get? dx = some od ∧ ∀ f, PySem.W.lookIn f od = some (mA f) := by
  obtain ⟨t1, hg⟩ := exo_at I.hok ha
  obtain ⟨mA, hns, hr⟩ := exd_at I.hok hd
  obtain ⟨od, ho, hl⟩ := lookIn_ns hns
  exact ⟨_, od, mA, ⟨hg, rfl, rfl, ho⟩, hr, hns, ho, hl⟩
/-- isinstance(e, c), e an exception of the text -/
def rIsX (K : PySem.W.Frag) : List V → Hp → VK → Prop := fun xs H Q => ∃ (a D dx : Addr) (fs : List (Str × V)) (c : V) (cv : Value) (b : Bool), xs = [.ref a, c] ∧ H a = some (exo a D (some dx)) ∧ H dx = some (exd dx fs) ∧ ExcC K D ∧
  (∀ u, RelV c u → u = cv) ∧ PySem.W.kitOne K (.ref D) cv = some b ∧ Q (.bl b) H
theorem call_isX : CallR X (.builtin "isinstance") (rIsX X.K) := by
  intro pins s σ H xs us Q I r h
  obtain ⟨a, D, dx, fs, c, cv, b, rfl, ha, hd, C, hcv, e, q⟩ := h
  obtain ⟨ox, od, mA, J, _⟩ := xo_inst I ha hd
  cases r with
  | cons r1 r2 =>
    cases r2 with
    | cons r3 r4 =>
      cases r4
      cases r1
      have ec := hcv _ r3
      subst ec
      refine PySem.W.kia_one (PySem.W.dw_kitx C) I.kIn ⟨_, J⟩ e (fun z => nomatch z) fun tk => ?_
      exact ⟨.bl b, H, I.kept (t' := tk) fun _ _ z => z, rfl, q⟩
/-- e.f, e an exception of the text -/
def tXof (K : PySem.W.Frag) (f : Str) (te : TE) : TE := fun σ H Q => te σ H fun x H1 => ∃ (a D dx : Addr) (fs : List (Str × V)) (v : V), x = .ref a ∧ H1 a = some (exo a D (some dx)) ∧ H1 dx = some (exd dx fs) ∧ XfC K D ∧ PySem.W.findIn K (.ref D) f = some none ∧
  fs.lookup f = some v ∧ Q v H1
theorem pe_xof {e : Expr} {te : TE} {pos : Pos} {f : Str} (he : PE X e te) (hb : attributeBase e f X.env (eval e X.env) = eval e X.env := by rfl) : PE X (.Attribute e f pos) (tXof X.K f te) := by
  refine ⟨fun pins s σ H Q I h => ?_⟩
  refine attr_of hb (thn (he.run pins s σ H _ I h) fun u s1 hh => ?_)
  obtain ⟨x, H1, I1, rx, a, D, dx, fs, v, rfl, ha, hd, T, no, l, q⟩ := hh
  obtain rfl : u = Value.ref a := rx
  obtain ⟨ox, od, mA, J, hr, hns, ho, hl⟩ := xo_inst I1 ha hd
  obtain ⟨u, hu, ru⟩ := RelO.some_of (v := v) (o := mA f) (by rw [← l]; exact hr f)
  refine HandSPX.exc_get I1.kIn J T.ga T.gg T.exC (PySem.W.findObj_own T.hdC no rfl (by rw [hl, hu])) (handed_of ru) ?_
  exact ⟨v, H1, I1.tok _, ru, q⟩
/-- C(e, ..), C a class of exceptions of the text: the value -/
def tXov (C : Addr) (sp : Sp) (ta : TA) : TE := fun σ H Q => ta σ H fun vs H1 => vs.length ≤ 1000 ∧ ∀ a, H1 a = none → sp (.ref a :: vs) (upd H1 a (exo a C none))
  (fun v H2 => v = .non ∧ Q (.ref a) H2) (fun _ _ _ => False)
theorem pe_xov {CX : CXT} {x : Str} {C fI : Addr} {k : Nat} {fd : FuncData} {ps : List Str} {sp : Sp} {e : Expr} {es : List Expr} {ta : TA} {p pos : Pos} (T : OexC X.K C)
    (iC : PySem.W.findIn X.K (.ref C) "__init__" = some (some (.ref fI))) (tI : PySem.W.typeIn X.K (.ref fI) = some (.type "function"))
    (F1 : FnOk X.prog X.w X.K X.mg X.base CX k fI fd ps sp) (hr : Room (k + 1) X.A) (hb : Binds X.K fd ps []) (hx : Passes CX X (fun _ _ _ => False)) (hg : Gl X x) (hm : X.mg x = some (.ref C)) (ha : PA X (e :: es) ta)
    (hdb : (x == ("__debug__" : Str)) = false) (he : starEach (e :: es) X.env = (false, eval e X.env) :: starEach es X.env) (hpl : (backTo pos (starEach es X.env)).any (·.1) = false) :
    PE X (.Call (.Name x p) (e :: es) [] pos) (tXov C sp ta) := by
  refine ⟨fun pins s σ H Q I h => ?_⟩
  obtain ⟨nm, q, N, bs, bm, sn, sub, ab, col, dd, k0, k1, k2, k3, k5, hC, hbm⟩ := T.cls
  refine wpAny_Call_Name_kw (ld_glob I hg hm ?_ hdb)
  refine PySem.W.callWith_K (h₀ := X.base) I.ok.mod.kin T.kC
    (thn (ha.run pos pins s σ H _ I h) fun us s1 ⟨vs, H1, I1, r1, hz, q1⟩ => ⟨I1.kIn, ?_⟩) he hpl
  show wpAny _ _ (call (.ref C) us) _ _ _
  obtain ⟨hp, g, dr, tk, os⟩ := s1
  have sz : hp.objs.size ≤ hp.objs.size + 1 := Nat.le_succ _
  have hn : H1 (hp.objs.size + 1) = none := I1.hok.fresh sz
  have hq := q1 (hp.objs.size + 1) hn
  have kk : ∀ b o, hp.get? b = some o → ((hp.push (PySem.W.kdv_tup us)).push (HandSPX.excO C hp.objs.size)).get? b = some o :=
    fun b o e => Heap.get?_push_of_some _ (Heap.get?_push_of_some _ e)
  have hget : ((hp.push (PySem.W.kdv_tup us)).push (HandSPX.excO C hp.objs.size)).get? (hp.objs.size + 1) = some (HandSPX.excO C hp.objs.size) := by
    heap_get
  have I2 : Inv X pins σ (upd H1 (hp.objs.size + 1) (exo (hp.objs.size + 1) C none)) ⟨(hp.push (PySem.W.kdv_tup us)).push (HandSPX.excO C hp.objs.size), g, dr, tk, os⟩ :=
    I1.laid (t' := tk) kk sz (exo_ok hget)
  have r2 : Vals (V.ref (hp.objs.size + 1) :: vs) (Value.ref (hp.objs.size + 1) :: us) := .cons rfl r1
  have hl : (Value.ref (hp.objs.size + 1) :: us).length = ps.length := by
    have e := r2.length
    rw [F1.len _ _ _ _ hq] at e
    exact e.symm
  have hus : us.length ≤ sizeLine := by
    rw [← Paired.length r1, sizeLine_eq]
    omega
  have bnd := hb ⟨(hp.push (PySem.W.kdv_tup us)).push (HandSPX.excO C hp.objs.size), g, dr, tk, os⟩ (Value.ref (hp.objs.size + 1) :: us) I2.kIn (by simpa using hl)
  rw [List.append_nil] at bnd
  refine wpAny_call (HandSPX.call_own F.excBase_ValueError (fun Y => HandSPX.refsVE_contains Y bm hbm) (I1.kIn _ _ hC) (PySem.W.looks_findIn I1.kIn iC)
    (fun self => PySem.W.bind_fn I1.kIn self tI) hus
    (codeAny_mono (F1.run _ X.stack _ _ ⟨Value.ref (hp.objs.size + 1) :: us, []⟩ (Value.ref (hp.objs.size + 1) :: us) _ _ (fun _ _ _ => False) (hr.make C us [])
      (I2.env0.make C us []) bnd r2 hq) fun r s' hq' => ?_))
  cases r with
  | error er => exact hx pins σ _ _ er s' I2 hq'
  | ok fl =>
    cases fl with
    | ret u =>
      obtain ⟨v, H2, os2, bare2, un2, hok2, rv, ev, q2⟩ := hq'
      subst ev
      refine ⟨rv, ?_⟩
      exact ⟨.ref (hp.objs.size + 1), H2, I2.call' (ch := []) os2 un2 hok2 bare2 (fun b z => absurd z (by simp)), rfl, q2⟩
    | next => exact False.elim hq'
    | brk => exact False.elim hq'
    | cont => exact False.elim hq'
end
end L2
namespace Dw
open PySem PySem.Spec PyProof.Rows L2
section
variable {X : Cx} {c : Ct} {W : WX}
/-! C(e), an exception as a value -/
def mXo (C f : Str) (a : MA) : ME := fun g mu => (a g mu).bd fun xs m => match xs with
  | [.d x] => .ok (.d (.exo C f x)) m
  | _ => .stuck
theorem de_xo {C f : Str} {Ca : Addr} {e : Expr} {ma : MA} {p pos : Pos} (T : XC X.K X.mg X.prog X.w X.base C f) (hmc : X.mg C = some (.ref Ca)) (hcc : c.mg C = some (.ref Ca)) (hr : Room 2 X.A) (hg : Gl X C) (ha : PA X [e] (lftA c W ma))
    (hdb : (C == ("__debug__" : Str)) = false := by decide) (he : starEach (e :: []) X.env = (false, eval e X.env) :: starEach [] X.env := by rfl) (hpl : (backTo pos (starEach [] X.env)).any (·.1) = false := by rfl) :
    PE X (.Call (.Name C p) [e] [] pos) (lft c W (mXo C f ma)) := by
  obtain ⟨Ca', fI, fd, hm, O, hi, ht, G, hb⟩ := T.ex
  have : Ca' = Ca := by rw [hmc] at hm; cases hm; rfl
  subst this
  refine (pe_xov (p := p) O hi ht G hr hb passL hg hm ha hdb he hpl).weak fun σ H Q ⟨g, ad, mu, hS, hT, o⟩ => ?_
  refine ⟨g, ad, mu, hS, hT, OutG.imp (OutG.bd (rel := Ans c) o) fun vs H1 ⟨ad1, mu1, xs, ch1, t1, dx, o1⟩ => ?_⟩
  split at o1
  · obtain ⟨v, rfl, b⟩ := dx.one
    refine ⟨(by simp : (1 : Nat) ≤ 1000), fun a ha1 => ⟨a, v, rfl, upd_same, fun d h1 h2 => ?_⟩⟩
    rw [upd_ne h2] at h1
    have hd1 : H1 d = none := h1
    have e1 : Ex H1 (upd (upd (upd H1 a (exo a Ca' none)) d (exd d [(f, v)])) a (exo a Ca' (some d))) := fun b o e => by
      have n1 : b ≠ a := ne_of_none e ha1
      have n2 : b ≠ d := ne_of_none e hd1
      rw [upd_ne n1, upd_ne n2, upd_ne n1]
      exact e
    refine ⟨rfl, o1 _ _ ad1 (.ex e1) (t1.ex e1) (.d (.exo (t1.free ha1) (t1.free hd1) hcc upd_same ?_ ((d_of b).ch (.ex e1))))⟩
    rw [upd_ne h2, upd_same]
  · exact o1.elim
/-! e.f -/
def mXof (kn : List Str) (f : Str) (e : ME) : ME := fun g mu => (e g mu).bd fun x m => match x with
  | .d (.exo C f' d) => if C ∈ kn ∧ f' = f then .ok (.d d) m else .stuck
  | _ => .stuck
theorem de_xof {kn : List Str} {f : Str} {e : Expr} {m : ME} {pos : Pos} (hK : X.K = c.K) (hk : ∀ C ∈ kn, ∀ Ca, c.mg C = some (.ref Ca) → XfC c.K Ca ∧ PySem.W.findIn c.K (.ref Ca) f = some none) (he : PE X e (lft c W m)) (hb : attributeBase e f X.env (eval e X.env) = eval e X.env := by rfl) :
    PE X (.Attribute e f pos) (lft c W (mXof kn f m)) :=
  (pe_xof he hb).weak fun σ H Q ⟨g, ad, mu, hS, hT, o⟩ => by
    refine ⟨g, ad, mu, hS, hT, OutG.imp (OutG.bd (rel := An c) o) fun v H1 ⟨ad1, mu1, x, ch1, t1, dx, o1⟩ => ?_⟩
    split at o1
    · rename_i C f' d
      split at o1
      · rename_i hc
        obtain ⟨hc, rfl⟩ := hc
        cases d_of dx with
        | exo n n2 m' e1 e2 t =>
          obtain ⟨q1, q2⟩ := hk C hc _ m'
          rw [hK]
          refine ⟨_, _, _, _, _, rfl, e1, e2, q1, q2, ?_, o1 _ H1 ad1 (.refl _ _) t1 (.d t)⟩
          simp [List.lookup]
      · exact o1.elim
    · exact o1.elim
/-! isinstance(e, T) -/
def mIsX (tb : Str → Option Bool) (e : ME) : ME := fun g mu => (e g mu).bd fun x m => match x with
  | .d (.exo C _ _) => (match tb C with
    | some b => .ok (.d (.bl b)) m
    | none => .stuck)
  | _ => .stuck
theorem isX_run {tb : Str → Option Bool} {cv : Value} {tv : V} {m : ME} {σ : L2.St} {H : Hp} {Q : VK} (hK : X.K = c.K) (hcv : ∀ u, RelV tv u → u = cv) (hk : ∀ C b, tb C = some b → ∀ Ca, c.mg C = some (.ref Ca) → ExcC c.K Ca ∧ PySem.W.kitOne c.K (.ref Ca) cv = some b) (h : lft c W (mIsX tb m) σ H Q) :
    lft c W m σ H fun v H1 => rIsX X.K [v, tv] H1 Q := by
  obtain ⟨g, ad, mu, hS, hT, o⟩ := h
  refine ⟨g, ad, mu, hS, hT, OutG.imp (OutG.bd (rel := An c) o) fun v H1 ⟨ad1, mu1, x, ch1, t1, dx, o1⟩ => ?_⟩
  split at o1
  · rename_i C f d
    split at o1
    · rename_i b hb
      cases d_of dx with
      | exo n n2 m' e1 e2 t =>
        obtain ⟨q1, q2⟩ := hk C b hb _ m'
        rw [hK]
        exact ⟨_, _, _, _, _, cv, b, rfl, e1, e2, q1, hcv, q2, o1 _ H1 ad1 (.refl _ _) t1 (.d (.bl b))⟩
    · exact o1.elim
  · exact o1.elim
theorem de_isX {tb : Str → Option Bool} {C : Str} {Ca : Addr} {e : Expr} {m : ME} {p p2 pos : Pos} (hg : Gl X "isinstance") (hm : X.mg "isinstance" = none) (hgT : Gl X C) (hmT : X.mg C = some (.ref Ca)) (hdT : (C == ("__debug__" : Str)) = false) (hK : X.K = c.K)
    (hk : ∀ C b, tb C = some b → ∀ Da, c.mg C = some (.ref Da) → ExcC c.K Da ∧ PySem.W.kitOne c.K (.ref Da) (.ref Ca) = some b) (he : PE X e (lft c W m))
    (h1 : starEach (e :: [.Name C p2]) X.env = (false, eval e X.env) :: starEach [.Name C p2] X.env := by rfl) (h2 : starEach (.Name C p2 :: []) X.env = (false, eval (.Name C p2) X.env) :: starEach [] X.env := by rfl) (hpl : (backTo pos (starEach [.Name C p2] X.env)).any (·.1) = false := by rfl) :
    PE X (.Call (.Name "isinstance" p) [e, .Name C p2] [] pos) (lft c W (mIsX tb m)) :=
  (pe_callB call_isX hg hm (by decide +kernel) (pa_cons he (pa_cons (pe_glob hgT hmT (v := .ref Ca) rfl hdT) pa_nil h2) h1) (by decide) (by decide) h1 hpl).weak fun σ H Q h =>
    isX_run (tv := .ref Ca) hK (fun u r => r) hk h
theorem de_isXT {tb : Str → Option Bool} {T : String} {Ts : Str} {e : Expr} {m : ME} {p p2 pos : Pos} (hg : Gl X "isinstance") (hm : X.mg "isinstance" = none) (hgT : Gl X Ts) (hmT : X.mg Ts = none) (hvT : bootBuiltins Ts = some (.type T)) (hnT : Ts ≠ "__name__") (hdT : (Ts == ("__debug__" : Str)) = false) (hK : X.K = c.K)
    (hk : ∀ C b, tb C = some b → ∀ Da, c.mg C = some (.ref Da) → ExcC c.K Da ∧ PySem.W.kitOne c.K (.ref Da) (.type T) = some b) (he : PE X e (lft c W m))
    (h1 : starEach (e :: [.Name Ts p2]) X.env = (false, eval e X.env) :: starEach [.Name Ts p2] X.env := by rfl) (h2 : starEach (.Name Ts p2 :: []) X.env = (false, eval (.Name Ts p2) X.env) :: starEach [] X.env := by rfl) (hpl : (backTo pos (starEach [.Name Ts p2] X.env)).any (·.1) = false := by rfl) :
    PE X (.Call (.Name "isinstance" p) [e, .Name Ts p2] [] pos) (lft c W (mIsX tb m)) :=
  (pe_callB call_isX hg hm (by decide +kernel) (pa_cons he (pa_cons (pe_bltn hgT hmT hvT (v := .ty T) rfl hnT hdT) pa_nil h2) h1) (by decide) (by decide) h1 hpl).weak fun σ H Q h =>
    isX_run (tv := .ty T) hK (fun u r => r) hk h
def tbF (kn : List Str) (p : Str → Bool) (C : Str) : Option Bool := if C ∈ kn then some (p C) else none
def All3 (K : PySem.W.Frag) (mg : Str → Option Value) (cv : Value) : List Str → List Addr → List Bool → Prop
  | n :: ns, a :: as, b :: bs => (mg n = some (.ref a) ∧ ExcC K a ∧ PySem.W.kitOne K (.ref a) cv = some b) ∧ All3 K mg cv ns as bs
  | [], [], [] => True
  | _, _, _ => False
theorem tab_of {K : PySem.W.Frag} {mg : Str → Option Value} {cv : Value} {p : Str → Bool} : ∀ {ns : List Str} {as : List Addr} {bs : List Bool}, All3 K mg cv ns as bs → ns.map p = bs → ∀ C b, tbF ns p C = some b → ∀ Da, mg C = some (.ref Da) → ExcC K Da ∧ PySem.W.kitOne K (.ref Da) cv = some b
  | [], _, _, _, _, C, b, h, _, _ => by simp [tbF] at h
  | n :: ns, a :: as, b0 :: bs, ⟨⟨m, x, k⟩, r⟩, e, C, b, h, Da, hm => by
    simp only [List.map_cons, List.cons.injEq] at e
    have hb : C ∈ n :: ns ∧ p C = b := by
      unfold tbF at h
      split at h
      · rename_i hc
        cases h
        exact ⟨hc, rfl⟩
      · cases h
    by_cases hC : C = n
    · subst hC
      rw [m] at hm
      cases hm
      exact ⟨x, by rw [k, ← e.1, hb.2]⟩
    · have hin : C ∈ ns := by
        cases hb.1 with
        | head => exact absurd rfl hC
        | tail _ h => exact h
      exact tab_of r e.2 C b (by unfold tbF; rw [if_pos hin, hb.2]) Da hm
theorem kit_refF {K : PySem.W.Frag} {C T : Addr} {b : Bool} (h1 : PySem.W.isClsIn K T = true) (h2 : PySem.W.typeIn K (.ref T) = some (.type "type")) (hs : PySem.W.subIn K (.ref T) (.ref T) = some true) (h3 : PySem.W.subIn K (.ref C) (.ref T) = some b) : PySem.W.kitOne K (.ref C) (.ref T) = some b := by
  unfold PySem.W.kitOne
  by_cases e : (Value.ref C == Value.ref T) = true
  · rw [if_pos e]
    have e2 : C = T := Value.ref.inj (beq_iff_eq.mp e)
    subst e2
    rw [hs] at h3
    exact h3
  · rw [if_neg e]
    have h1' : (PySem.W.clsIn K T).isSome = true := h1
    show (if ((PySem.W.clsIn K T).isSome && PySem.W.typeIn K (.ref T) == some (.type "type")) = true then PySem.W.subIn K (.ref C) (.ref T) else none) = some b
    rw [if_pos (by rw [h1', h2]; rfl)]
    exact h3
/-! a, b, c = x, y, z -/
def mPar3 (i j l : Nat) (a : MA) : MS := fun g mu => (a g mu).st g fun xs m => match xs with
  | [x, y, z] => .nx (((g.set i (some x)).set j (some y)).set l (some z)) m
  | _ => .stuck
theorem par3_run {i j l : Nat} {ma : MA} {D : Ends} {σ : L2.St} {H : Hp} (h : lftS c W (mPar3 i j l ma) D σ H) : tPar3 i j l (lftA c W ma) D σ H := by
  obtain ⟨g, ad, mu, hS, hT, o⟩ := h
  refine ⟨g, ad, mu, hS, hT, OutG.imp (OutS.bd (rel := Ans c) hS o) fun vs H1 ⟨ad1, mu1, xs, ch1, t1, dx, o1⟩ => ?_⟩
  split at o1
  · cases dx with
    | cons a1 t =>
      cases t with
      | cons a2 t =>
        cases t with
        | cons a3 t =>
          cases t
          exact ⟨_, _, _, rfl, o1 _ H1 ad1 (.refl _ _) ((((hS.ch ch1).set a1).set a2).set a3) t1⟩
  · exact o1.elim
theorem ds_par3 {i j l : Nat} {x y z : Str} {a b d : Expr} {ma : MA} {px py pz pt pos : Pos} {kt k2 pt2} (hc : X.calm = true) (hN : X.N.Nodup) (hi : X.N[i]? = some x) (hj : X.N[j]? = some y) (hl : X.N[l]? = some z) (hij : i ≠ j) (hil : i ≠ l) (hjl : j ≠ l) (hx : X.env.scope.names.lookup x = some .local) (hy : X.env.scope.names.lookup y = some .local)
    (hz : X.env.scope.names.lookup z = some .local) (ha : PA X [a, b, d] (lftA c W ma)) (hw : swappedStores [.Tuple [.Name x px, .Name y py, .Name z pz] kt pt] (.Tuple [a, b, d] k2 pt2) X.env = pure (some [x, y, z]) := by rfl)
    (hs : swapsWithSole [.Tuple [.Name x px, .Name y py, .Name z pz] kt pt] (.Tuple [a, b, d] k2 pt2) pos.line X.env = pure false := by rfl) :
    PS X (.Assign [.Tuple [.Name x px, .Name y py, .Name z pz] kt pt] (.Tuple [a, b, d] k2 pt2) pos) (lftS c W (mPar3 i j l ma)) :=
  (ps_par3 hc hN hi hj hl hij hil hjl hx hy hz ha hw hs).weak fun D σ H h => par3_run h
end
section
variable (g : Gm) (mu : Mu)
@[simp] theorem mXo_ap (C f : Str) (a : MA) : mXo C f a g mu = (a g mu).bd fun xs m => match xs with
  | [.d x] => .ok (.d (.exo C f x)) m
  | _ => .stuck := rfl
@[simp] theorem mXof_ap (kn : List Str) (f : Str) (e : ME) : mXof kn f e g mu = (e g mu).bd fun x m => match x with
  | .d (.exo C f' d) => if C ∈ kn ∧ f' = f then .ok (.d d) m else .stuck
  | _ => .stuck := rfl
@[simp] theorem mIsX_ap (tb : Str → Option Bool) (e : ME) : mIsX tb e g mu = (e g mu).bd fun x m => match x with
  | .d (.exo C _ _) => (match tb C with
    | some b => .ok (.d (.bl b)) m
    | none => .stuck)
  | _ => .stuck := rfl
@[simp] theorem mPar3_ap (i j l : Nat) (a : MA) : mPar3 i j l a g mu = (a g mu).st g fun xs m => match xs with
  | [x, y, z] => .nx (((g.set i (some x)).set j (some y)).set l (some z)) m
  | _ => .stuck := rfl
end
end Dw
namespace Dw
open PySem PySem.Spec PyProof.Rows L2
theorem kit_self {K : PySem.W.Frag} {t : Value} : PySem.W.kitOne K t t = some true := by
  unfold PySem.W.kitOne
  rw [if_pos (by simp)]
theorem kit_own {K : PySem.W.Frag} {C : Addr} {T : String} {b : Bool} (h1 : PySem.W.isClsIn K C = true) (h2 : PySem.W.typeIn K (.ref C) = some (.type "type")) (h3 : PySem.W.subIn K (.type T) (.ref C) = some b) : PySem.W.kitOne K (.type T) (.ref C) = some b := by
  unfold PySem.W.kitOne
  rw [if_neg (by simp)]
  have h1' : (PySem.W.clsIn K C).isSome = true := h1
  show (if ((PySem.W.clsIn K C).isSome && PySem.W.typeIn K (.ref C) == some (.type "type")) = true then PySem.W.subIn K (.type T) (.ref C) else none) = some b
  rw [h1', h2, if_pos (by simp)]
  exact h3
theorem kit_no {K : PySem.W.Frag} {C : Addr} {T : String} {b : Bool} (h1 : PySem.W.kitMeta T = true) (h3 : PySem.W.subIn K (.ref C) (.type T) = some b) : PySem.W.kitOne K (.ref C) (.type T) = some b := by
  unfold PySem.W.kitOne
  rw [if_neg (by simp)]
  show (if PySem.W.kitMeta T = true then PySem.W.subIn K (.ref C) (.type T) else none) = some b
  rw [if_pos h1]
  exact h3
/-- the script as a law gets it -/
theorem script_an {K : PySem.W.Frag} {mg : Str → Option Value} {H : Hp} {a : Addr} {ns : List Int} (hS : SqL K H a (ns.map V.int)) : An ⟨K, mg, none⟩ H [] (.ref a) (.scr ns) := by
  rcases hS with h | h
  · refine .scr (by simp) (.inl h) fun e => ?_
    rcases h with h | ⟨o, h⟩
    · rw [e] at h; cases h
    · rw [e] at h; cases h
  · exact .kscr fun H' => .inr h
/-- the law's end from its mirror -/
theorem walk_law {l : PySem.W.OpenLaw} {q : Program} {loose : List Str} {XP : (Str → Option Value) → Heap → Prop} {YP : World → Heap → Prop} {d : DefRec} {K : Params → PySem.W.Frag} {k : Nat} {M : List Ar → Mu → R Ar} (hn : l.most = some 63) (hdf : d.params.defaults = [])
    (hY : ∀ (w : World) (h : Heap), YP w h → (K w.params).In h)
    (F : ∀ (w : World) (mg : Str → Option Value) (fa : Addr) (h : Heap), (K w.params).In h → h.Ns mainGlobals mg → mg d.name = some (.ref fa) →
      ∃ fd : FuncData, (∀ (s : Shared) (u : Value), BindsTo s fd ⟨[u], []⟩ [("script", u)]) ∧ ∀ base : Heap, (K w.params).In base → base.Ns mainGlobals mg → FnOk l.prog w (K w.params) mg base (L2.CX l.prog w) k fa fd ["script"] (spOf ⟨K w.params, mg, none⟩ 1 M))
    (hM : ∀ ns : List Int, ns.length ≤ 63 → ∃ m, M [.scr ns] [] = .ok (.d (.bl true)) m) (hr : Room k callerA) :
    PySem.W.WalkO q loose XP YP l.row.toRowW d [] (fun f vs => PySem.call f vs) := by
  refine Att.attach_call hn hdf fun w s₀ s₁ mg mb fa o pm cd doc a vs ns G Y ho hd hcd hmg hobj hints hlen hg => ?_
  have KX := hY w _ Y
  obtain ⟨fd, hb, hF⟩ := F w mg fa _ KX G.T.g hmg
  refine law_call KX G.T.g G.T.b G.T.builtins G.T.nolimit hg hobj hints (Nat.le_trans hlen (by decide)) hr hF hb (fun H hO hS => ?_) fun H e s' h => ?_
  · obtain ⟨m, hm⟩ := hM ns hlen
    refine ⟨rfl, [.scr ns], [], [], .cons (script_an hS) .nil, ⟨List.nodup_nil, rfl, fun i a cl h => by simp at h⟩, ?_⟩
    rw [hm]
    intro v H' ad' ch t av
    exact bl_of av
  · obtain ⟨_, _, _, _, _, _, _, _, _, _, _, _, w⟩ := h
    exact w
end Dw
namespace Dw
open PySem PySem.Spec PyProof.Rows L2
inductive Fa2 {α β : Type} (R : α → β → Prop) : List α → List β → Prop
  | nil : Fa2 R [] []
  | cons {a : α} {b : β} {as : List α} {bs : List β} : R a b → Fa2 R as bs → Fa2 R (a :: as) (b :: bs)
theorem Fa2.length {α β : Type} {R : α → β → Prop} : ∀ {as : List α} {bs : List β}, Fa2 R as bs → as.length = bs.length
  | _, _, .nil => rfl
  | _, _, .cons _ t => congrArg (· + 1) (Fa2.length t)
theorem Fa2.all {α β : Type} {R : α → β → Prop} {P : β → Prop} (h : ∀ a b, R a b → P b) : ∀ {as : List α} {bs : List β}, Fa2 R as bs → ∀ b ∈ bs, P b
  | _, _, .nil, _, hb => by cases hb
  | _, _, .cons r t, b, hb => by
    cases hb with
    | head => exact h _ _ r
    | tail _ hb => exact Fa2.all h t b hb
/-! ### a mirror at an input: what simp needs -/
def RS.sq (r : RS) (k : MS) : RS := match r with
  | .nx g m => k g m
  | .rt x m => .rt x m
  | .bk g m => .bk g m
  | .ct g m => .ct g m
  | .exc C ks ds g m => .exc C ks ds g m
  | .stuck => .stuck
def RS.fn (n : Nat) (r : RS) : R Ar := match r with
  | .nx _ m' => popR n (.d .non) m'
  | .rt a m' => popR n a m'
  | .exc C ks ds _ m' => .exc C ks ds (m'.take n)
  | _ => .stuck
section
variable {α β : Type} (a : α) (m mu : Mu) (g : Gm) (C : Str) (ks : List Str) (ds : List D)
@[simp] theorem bd_ok (k : α → Mu → R β) : (R.ok a m).bd k = k a m := rfl
@[simp] theorem bd_exc (k : α → Mu → R β) : (R.exc C ks ds m : R α).bd k = .exc C ks ds m := rfl
@[simp] theorem bd_stuck (k : α → Mu → R β) : (R.stuck : R α).bd k = .stuck := rfl
@[simp] theorem st_ok (k : α → Mu → RS) : (R.ok a m).st g k = k a m := rfl
@[simp] theorem st_exc (k : α → Mu → RS) : (R.exc C ks ds m : R α).st g k = .exc C ks ds g m := rfl
@[simp] theorem st_stuck (k : α → Mu → RS) : (R.stuck : R α).st g k = .stuck := rfl
@[simp] theorem sq_nx (k : MS) : (RS.nx g m).sq k = k g m := rfl
@[simp] theorem sq_rt (x : Ar) (k : MS) : (RS.rt x m).sq k = .rt x m := rfl
@[simp] theorem sq_bk (k : MS) : (RS.bk g m).sq k = .bk g m := rfl
@[simp] theorem sq_ct (k : MS) : (RS.ct g m).sq k = .ct g m := rfl
@[simp] theorem sq_exc (k : MS) : (RS.exc C ks ds g m).sq k = .exc C ks ds g m := rfl
@[simp] theorem fn_nx (n : Nat) : (RS.nx g m).fn n = .ok (.d .non) (m.take n) := rfl
@[simp] theorem fn_rtd (n : Nat) (x : D) : (RS.rt (.d x) m).fn n = .ok (.d x) (m.take n) := rfl
@[simp] theorem fn_rtc (n i : Nat) : (RS.rt (.cel i) m).fn n = if i < n then .ok (.cel i) (m.take n) else (match m[i]? with
    | some cl => .ok (.cel n) (m.take n ++ [cl])
    | none => .stuck) := rfl
@[simp] theorem fn_exc (n : Nat) : (RS.exc C ks ds g m).fn n = .exc C ks ds (m.take n) := rfl
end
section
variable (g : Gm) (mu : Mu) (e a b : ME) (f : Mu → Ar → Ar → Option D) (t u : MT)
theorem fnM_ap (N : Nat) (m : MS) (xs : List Ar) : fnM N m xs mu = (m (xs.map some ++ List.replicate (N - xs.length) none) mu).fn mu.length := by
  unfold fnM RS.fn
  split <;> simp_all
@[simp] theorem mVar_ap (i : Nat) : mVar i g mu = match g[i]? with
  | some (some x) => .ok x mu
  | _ => .stuck := rfl
@[simp] theorem mC_ap (x : D) : mC x g mu = .ok (.d x) mu := rfl
@[simp] theorem mBin_ap : mBin f a b g mu = (a g mu).bd fun x mu1 => (b g mu1).bd fun y mu2 => match f mu2 x y with
  | some z => .ok (.d z) mu2
  | none => .stuck := rfl
@[simp] theorem mUn_ap (f : Mu → Ar → Option D) : mUn f a g mu = (a g mu).bd fun x mu1 => match f mu1 x with
  | some z => .ok (.d z) mu1
  | none => .stuck := rfl
@[simp] theorem mChain_ap (f f' : Mu → Ar → Ar → Option D) (d : ME) : mChain f f' a b d g mu = (a g mu).bd fun x mu1 => (b g mu1).bd fun y mu2 => match f mu2 x y with
  | some (.bl true) => (d g mu2).bd fun z mu3 => (match f' mu3 y z with
    | some u => .ok (.d u) mu3
    | none => .stuck)
  | some (.bl false) => .ok (.d (.bl false)) mu2
  | _ => .stuck := rfl
@[simp] theorem mNil_ap : mNil g mu = .ok [] mu := rfl
@[simp] theorem mCons_ap (r : MA) : mCons a r g mu = (a g mu).bd fun x mu1 => (r g mu1).bd fun xs mu2 => .ok (x :: xs) mu2 := rfl
@[simp] theorem mTup_ap (a : MA) : mTup a g mu = (a g mu).bd fun xs mu1 => match asD xs with
  | some ds => if ds.length ≤ 16777216 then .ok (.d (.tup ds)) mu1 else .stuck
  | none => .stuck := rfl
@[simp] theorem mLst_ap (a : MA) : mLst a g mu = (a g mu).bd fun xs mu1 => match asD xs with
  | some ds => if ds.length ≤ 16777216 then .ok (.d (.lst ds)) mu1 else .stuck
  | none => .stuck := rfl
@[simp] theorem mLstC_ap (a : MA) : mLstC a g mu = (a g mu).bd fun xs mu1 => match asD xs with
  | some ds => if ds.length ≤ 16777216 then .ok (.cel mu1.length) (mu1 ++ [.lst ds]) else .stuck
  | none => .stuck := rfl
@[simp] theorem mB_ap : mB e g mu = (e g mu).bd fun x mu1 => match x with
  | .d (.bl b) => .ok b mu1
  | _ => .stuck := rfl
@[simp] theorem mAnd_ap : mAnd t u g mu = (t g mu).bd fun x mu1 => if x then u g mu1 else .ok false mu1 := rfl
@[simp] theorem mOr_ap : mOr t u g mu = (t g mu).bd fun x mu1 => if x then .ok true mu1 else u g mu1 := rfl
@[simp] theorem mNot_ap : mNot t g mu = (t g mu).bd fun x mu1 => .ok (!x) mu1 := rfl
@[simp] theorem mV_ap : mV t g mu = (t g mu).bd fun x mu1 => .ok (.d (.bl x)) mu1 := rfl
@[simp] theorem mAndV_ap : mAndV a b g mu = (a g mu).bd fun x mu1 => match x with
  | .d (.bl true) => b g mu1
  | .d (.bl false) => .ok (.d (.bl false)) mu1
  | _ => .stuck := rfl
@[simp] theorem mOrV_ap : mOrV a b g mu = (a g mu).bd fun x mu1 => match x with
  | .d (.bl false) => b g mu1
  | .d (.bl true) => .ok (.d (.bl true)) mu1
  | _ => .stuck := rfl
@[simp] theorem mNotV_ap : mNotV a g mu = (a g mu).bd fun x mu1 => match x with
  | .d (.bl b) => .ok (.d (.bl (!b))) mu1
  | _ => .stuck := rfl
@[simp] theorem mIf_ap : mIf t a b g mu = (t g mu).bd fun x mu1 => if x then a g mu1 else b g mu1 := rfl
@[simp] theorem mCB_ap (f : Mu → List Ar → Option D) (a : MA) : mCB f a g mu = (a g mu).bd fun xs mu1 => match f mu1 xs with
  | some z => .ok (.d z) mu1
  | none => .stuck := rfl
@[simp] theorem mCall_ap (n : Nat) (f : List Ar → Mu → R Ar) (a : MA) : mCall n f a g mu = (a g mu).bd fun xs mu1 => if xs.length = n then f xs mu1 else .stuck := rfl
@[simp] theorem mIsi_ap (kc : List Str) (T : String) : mIsi kc T e g mu = (e g mu).bd fun x m => match isTyA kc T m x with
  | some b => .ok (.d (.bl b)) m
  | none => .stuck := rfl
@[simp] theorem mIsiC_ap (C : Str) : mIsiC C e g mu = (e g mu).bd fun x m => match x with
  | .d x => (match isCl C x with
    | some b => .ok (.d (.bl b)) m
    | none => .stuck)
  | _ => .stuck := rfl
@[simp] theorem mFld_ap (C f : Str) : mFld C f e g mu = (e g mu).bd fun x m => match insOf C m x with
  | some (ks, ds) => (match lkF ks ds f with
    | some d => .ok (.d d) m
    | none => .stuck)
  | none => .stuck := rfl
@[simp] theorem mXf_ap (f : Str) : mXf f e g mu = (e g mu).bd fun x m => match x with
  | .exn ks ds => (match lkF ks ds f with
    | some d => .ok (.d d) m
    | none => .stuck)
  | _ => .stuck := rfl
@[simp] theorem mMake_ap (C : Str) (n : Nat) (F : List Ar → Mu → R Ar) (a : MA) : mMake C n F a g mu = (a g mu).bd fun xs m => if xs.length = n then (match F (.cel m.length :: xs) (m ++ [.ins C [] []]) with
  | .ok (.d .non) m' => (match m'[m.length]? with
    | some (.ins C' ks ds) => .ok (.d (.ins C' ks ds)) (m'.take m.length)
    | _ => .stuck)
  | .exc C ks ds m' => .exc C ks ds (m'.take m.length)
  | _ => .stuck) else .stuck := rfl
@[simp] theorem mMeth_ap (C m : Str) (n : Nat) (F : List Ar → Mu → R Ar) (a : MA) : mMeth C m n F e a g mu = (e g mu).bd fun ov m1 => match insOf C m1 ov with
  | some (ks, _) => if inF ks m = false then (a g m1).bd fun xs m2 => (if xs.length = n then F (ov :: xs) m2 else .stuck) else .stuck
  | none => .stuck := rfl
@[simp] theorem mLenOwn_ap (C : Str) (F : List Ar → Mu → R Ar) : mLenOwn C F e g mu = (e g mu).bd fun x m => match insOf C m x with
  | some _ => (match F [x] m with
    | .ok (.d (.int n)) m1 => if 0 ≤ n ∧ n < 2 ^ 63 then .ok (.d (.int n)) m1 else .stuck
    | _ => .stuck)
  | none => .stuck := rfl
@[simp] theorem mEqOwn_ap (C : Str) (F : List Ar → Mu → R Ar) : mEqOwn C F a b g mu = (a g mu).bd fun x m => (b g m).bd fun y m1 => match insOf C m1 x, y with
  | some _, .d (.tup _) => (match F [x, y] m1 with
    | .ok (.d (.bl r)) m2 => .ok (.d (.bl r)) m2
    | _ => .stuck)
  | some _, .d (.ins C' _ _) => if C' = C then (match F [x, y] m1 with
    | .ok (.d (.bl r)) m2 => .ok (.d (.bl r)) m2
    | _ => .stuck) else .stuck
  | _, _ => .stuck := rfl
@[simp] theorem mBM_ap (ty : Mu → Ar → Bool) (f : Mu → Ar → List Ar → Option (D × Mu)) (o : ME) (a : MA) : mBM ty f o a g mu = (o g mu).bd fun ov m => if ty m ov then (a g m).bd fun xs m1 => (match f m1 ov xs with
  | some (z, m2) => .ok (.d z) m2
  | none => .stuck) else .stuck := rfl
@[simp] theorem mSl_ap (f : Mu → Ar → Option Int → Option Int → Option D) (lo hi : MO) : mSl f e lo hi g mu = (e g mu).bd fun x m => (lo g m).bd fun l m1 => (hi g m1).bd fun h m2 => match f m2 x l h with
  | some z => .ok (.d z) m2
  | none => .stuck := rfl
@[simp] theorem mNoP_ap : mNoP g mu = .ok none mu := rfl
@[simp] theorem mPart_ap : mPart e g mu = (e g mu).bd fun x m => match x with
  | .d (.int i) => .ok (some i) m
  | _ => .stuck := rfl
@[simp] theorem mYes_ap : mYes g mu = .ok true mu := rfl
@[simp] theorem mItT_ap : mItT e g mu = (e g mu).bd fun x m => match x with
  | .d (.tup xs) => .ok xs m
  | _ => .stuck := rfl
@[simp] theorem mItL_ap : mItL e g mu = (e g mu).bd fun x m => match x with
  | .d (.lst xs) => .ok xs m
  | _ => .stuck := rfl
@[simp] theorem mRng1_ap (a : MA) : mRng1 a g mu = (a g mu).bd fun xs m => match xs with
  | [.d (.int j)] => if -(2 ^ 62) ≤ j ∧ j < 2 ^ 62 then .ok (rngD 0 j.toNat) m else .stuck
  | _ => .stuck := rfl
@[simp] theorem mRng2_ap (a : MA) : mRng2 a g mu = (a g mu).bd fun xs m => match xs with
  | [.d (.int i), .d (.int j)] => if -(2 ^ 62) ≤ i ∧ i < 2 ^ 62 ∧ -(2 ^ 62) ≤ j ∧ j < 2 ^ 62 then .ok (rngD i (j - i).toNat) m else .stuck
  | _ => .stuck := rfl
/-! suites -/
@[simp] theorem mSkip_ap : mSkip g mu = .nx g mu := rfl
@[simp] theorem mSeq_ap (x y : MS) : mSeq x y g mu = (x g mu).sq y := by
  unfold mSeq RS.sq
  split <;> simp_all
@[simp] theorem mBreak_ap : mBreak g mu = .bk g mu := rfl
@[simp] theorem mCont_ap : mCont g mu = .ct g mu := rfl
@[simp] theorem mRet_ap : mRet e g mu = (e g mu).st g fun x m => .rt x m := rfl
@[simp] theorem mRetN_ap : mRetN g mu = .rt (.d .non) mu := rfl
@[simp] theorem mDrop_ap : mDrop e g mu = (e g mu).st g fun _ m => .nx g m := rfl
@[simp] theorem mIfS_ap (x y : MS) : mIfS t x y g mu = (t g mu).st g fun v m => if v then x g m else y g m := rfl
@[simp] theorem mAsg_ap (t : MG) : mAsg e t g mu = (e g mu).st g fun x m => match t x g with
  | some g1 => .nx g1 m
  | none => .stuck := rfl
@[simp] theorem mPar_ap (i j : Nat) (a : MA) : mPar i j a g mu = (a g mu).st g fun xs m => match xs with
  | [x, y] => .nx ((g.set i (some x)).set j (some y)) m
  | _ => .stuck := rfl
@[simp] theorem mSetI_ap (o i : ME) : mSetI e o i g mu = (e g mu).st g fun x m => (o g m).st g fun ov m1 => (i g m1).st g fun iv m2 => match x with
  | .d x => match setC m2 ov iv x with
    | some m3 => .nx g m3
    | none => .stuck
  | _ => .stuck := rfl
@[simp] theorem mSetF_ap (C f : Str) (o : ME) : mSetF C f e o g mu = (e g mu).st g fun x m => (o g m).st g fun ov m1 => match x, ov with
  | .d x, .cel i => (match m1[i]? with
    | some (.ins C' ks ds) => if C' = C ∧ ks.length < 1000 then (match putK f x ks ds with
      | some (ks', ds') => .nx g (m1.set i (.ins C ks' ds'))
      | none => .stuck) else .stuck
    | _ => .stuck)
  | _, _ => .stuck := rfl
@[simp] theorem mRaise_ap (C f : Str) (a : MA) : mRaise C f a g mu = (a g mu).st g fun xs m => match xs with
  | [.d x] => .exc C [f] [x] g m
  | _ => .stuck := rfl
@[simp] theorem mFor_ap (i : MI) (t : MG) (b : MS) : mFor i t b g mu = (i g mu).st g fun ds m => forL t b ds g m := rfl
@[simp] theorem mForC_ap (f : Nat) (t : MG) (b : MS) : mForC f e t b g mu = (e g mu).st g fun x m => match x with
  | .cel n => forC n t b f 0 g m
  | _ => .stuck := rfl
@[simp] theorem gN_ap (i : Nat) (x : Ar) : gN i x g = some (g.set i (some x)) := rfl
@[simp] theorem asD_nil : asD [] = some [] := rfl
@[simp] theorem asD_cons (x : D) (r : List Ar) : asD (.d x :: r) = match asD r with
    | some xs => some (x :: xs)
    | none => none := rfl
end
/-! operations at data -/
section
variable (mu : Mu)
@[simp] theorem fAdd_int (i j : Int) : fAdd mu (.d (.int i)) (.d (.int j)) = some (.int (i + j)) := rfl
@[simp] theorem fAdd_str (a b : Str) : fAdd mu (.d (.str a)) (.d (.str b)) = if a.length + b.length ≤ 16777216 then some (.str (a ++ b)) else none := rfl
@[simp] theorem fAdd_tup (a b : List D) : fAdd mu (.d (.tup a)) (.d (.tup b)) = if a.length + b.length ≤ 16777216 then some (.tup (a ++ b)) else none := rfl
@[simp] theorem fAdd_lst (a b : List D) : fAdd mu (.d (.lst a)) (.d (.lst b)) = if a.length + b.length ≤ 16777216 then some (.lst (a ++ b)) else none := rfl
@[simp] theorem fSub_int (i j : Int) : fSub mu (.d (.int i)) (.d (.int j)) = some (.int (i - j)) := rfl
@[simp] theorem fNeg_int (i : Int) : fNeg mu (.d (.int i)) = some (.int (-i)) := rfl
@[simp] theorem fMod_int (i j : Int) : fMod mu (.d (.int i)) (.d (.int j)) = if 0 < j then some (.int (i % j)) else none := rfl
@[simp] theorem fDiv_int (i j : Int) : fDiv mu (.d (.int i)) (.d (.int j)) = if 0 < j ∧ j < 1073741824 then some (.int (i / j)) else none := by
  unfold fDiv fI L2.CDiv
  rfl
@[simp] theorem fMulA_int (i j : Int) : fMulA mu (.d (.int i)) (.d (.int j)) = if (-(2 ^ 64) < i ∧ i < 2 ^ 64) ∨ (-(2 ^ 64) < j ∧ j < 2 ^ 64) then some (.int (i * j)) else none := by
  unfold fMulA L2.CMul
  rfl
@[simp] theorem fMulA_tup (xs : List D) (k : Int) : fMulA mu (.d (.tup xs)) (.d (.int k)) = if xs.length = 0 ∨ k = 1 then (if -(2 ^ 63) ≤ k ∧ k < 2 ^ 63 then some (.tup xs) else none) else if 2 ≤ k ∧ k ≤ 1000 ∧ xs.length ≤ 1000 then some (.tup (List.replicate k.toNat xs).flatten) else none := rfl
@[simp] theorem fPow_int (i j : Int) : fPow mu (.d (.int i)) (.d (.int j)) = if 0 ≤ j ∧ j ≤ 1000000 ∧ i.natAbs < 2 ^ 64 then some (.int (i ^ j.toNat)) else none := by
  unfold fPow fI L2.CPow
  rfl
@[simp] theorem fLt_int (i j : Int) : fLt mu (.d (.int i)) (.d (.int j)) = some (.bl (decide (i < j))) := rfl
@[simp] theorem fLe_int (i j : Int) : fLe mu (.d (.int i)) (.d (.int j)) = some (.bl (decide (i ≤ j))) := rfl
@[simp] theorem fGt_int (i j : Int) : fGt mu (.d (.int i)) (.d (.int j)) = some (.bl (decide (j < i))) := rfl
@[simp] theorem fGe_int (i j : Int) : fGe mu (.d (.int i)) (.d (.int j)) = some (.bl (decide (j ≤ i))) := rfl
@[simp] theorem fIsB_bl (neg a b : Bool) : fIsB neg mu (.d (.bl a)) (.d (.bl b)) = some (.bl (decide (a = b) != neg)) := rfl
@[simp] theorem datOf_d (x : D) : datOf mu (.d x) = some x := rfl
@[simp] theorem datOf_cel (i : Nat) : datOf mu (.cel i) = match mu[i]? with
    | some (.lst xs) => some (.lst xs)
    | _ => none := rfl
theorem fEq_ap (neg : Bool) (x y : Ar) : fEq neg mu x y = match datOf mu x, datOf mu y with
  | some d, some e => if dok d = true ∧ dok e = true ∧ dep d ≤ 64 ∧ dep e ≤ 64 then some (.bl (deq d e != neg)) else none
  | _, _ => none := rfl
@[simp] theorem fEq_int (neg : Bool) (i j : Int) : fEq neg mu (.d (.int i)) (.d (.int j)) = some (.bl (decide (i = j) != neg)) := by
  unfold fEq
  simp [dok, dep, deq]
  rfl
theorem fEq_d (neg : Bool) {x y : D} (h1 : dok x = true) (h2 : dok y = true) (h3 : dep x ≤ 64) (h4 : dep y ≤ 64) : fEq neg mu (.d x) (.d y) = some (.bl (deq x y != neg)) := by
  unfold fEq
  simp [*]
@[simp] theorem fIx_tup (xs : List D) (i : Int) : fIx mu (.d (.tup xs)) (.d (.int i)) = L2.atI xs i := rfl
@[simp] theorem fIx_lst (xs : List D) (i : Int) : fIx mu (.d (.lst xs)) (.d (.int i)) = L2.atI xs i := rfl
@[simp] theorem fIx_cel (n : Nat) (i : Int) : fIx mu (.cel n) (.d (.int i)) = match mu[n]? with
    | some (.lst xs) => L2.atI xs i
    | _ => none := rfl
@[simp] theorem fIx_scr (ns : List Int) (i : Int) : fIx mu (.scr ns) (.d (.int i)) = match L2.atI ns i with
    | some k => some (.int k)
    | none => none := rfl
@[simp] theorem fSlA_tup (xs : List D) (lo hi : Option Int) : fSlA mu (.d (.tup xs)) lo hi = some (.tup (cutD xs lo hi)) := rfl
@[simp] theorem fSlA_lst (xs : List D) (lo hi : Option Int) : fSlA mu (.d (.lst xs)) lo hi = some (.lst (cutD xs lo hi)) := rfl
@[simp] theorem fSlA_str (s : Str) (lo hi : Option Int) : fSlA mu (.d (.str s)) lo hi = if s.length ≤ 16777216 then some (.str (cutS s lo hi)) else none := rfl
@[simp] theorem fLen_tup (xs : List D) : fLen mu [.d (.tup xs)] = some (.int (xs.length : Nat)) := rfl
@[simp] theorem fLen_lst (xs : List D) : fLen mu [.d (.lst xs)] = some (.int (xs.length : Nat)) := rfl
@[simp] theorem fLen_scr (ns : List Int) : fLen mu [.scr ns] = some (.int (ns.length : Nat)) := rfl
@[simp] theorem fLen_cel (n : Nat) : fLen mu [.cel n] = match mu[n]? with
    | some (.lst xs) => some (.int (xs.length : Nat))
    | _ => none := by
  show (match (match mu[n]? with
    | some (.lst xs) => some xs.length
    | _ => none) with
    | some n => some (D.int (n : Nat))
    | none => none) = _
  cases mu[n]? with
  | none => rfl
  | some c => cases c <;> rfl
@[simp] theorem fAbs_int (i : Int) : fAbs mu [.d (.int i)] = some (.int (if i < 0 then -i else i)) := rfl
@[simp] theorem fInt_int (i : Int) : fInt mu [.d (.int i)] = some (.int i) := rfl
@[simp] theorem fInt_bl (b : Bool) : fInt mu [.d (.bl b)] = some (.int (if b then 1 else 0)) := rfl
@[simp] theorem fStr_int (i : Int) : fStr mu [.d (.int i)] = if i.natAbs.log2 < 1920 then some (.str (toString i)) else none := rfl
@[simp] theorem fList_tup (xs : List D) : fList mu [.d (.tup xs)] = some (.lst xs) := rfl
@[simp] theorem fList_lst (xs : List D) : fList mu [.d (.lst xs)] = some (.lst xs) := rfl
@[simp] theorem fTuple_tup (xs : List D) : fTuple mu [.d (.tup xs)] = some (.tup xs) := rfl
@[simp] theorem fTuple_lst (xs : List D) : fTuple mu [.d (.lst xs)] = some (.tup xs) := rfl
@[simp] theorem fTuple_cel (n : Nat) : fTuple mu [.cel n] = match mu[n]? with
    | some (.lst xs) => some (.tup xs)
    | _ => none := by
  show (match (match mu[n]? with
    | some (.lst xs) => some xs
    | _ => none) with
    | some ds => some (D.tup ds)
    | none => none) = _
  cases mu[n]? with
  | none => rfl
  | some c => cases c <;> rfl
@[simp] theorem fMax2_int (i j : Int) : fMax2 mu [.d (.int i), .d (.int j)] = some (.int (if j > i then j else i)) := rfl
@[simp] theorem fMin2_int (i j : Int) : fMin2 mu [.d (.int i), .d (.int j)] = some (.int (if j < i then j else i)) := rfl
theorem blsD_map (p : D → Bool) : ∀ xs : List D, blsD (xs.map fun d => .bl (p d)) = some (xs.map p)
  | [] => rfl
  | x :: xs => by
    show (match blsD (xs.map fun d => D.bl (p d)) with
      | some bs => some (p x :: bs)
      | none => none) = _
    rw [blsD_map p xs]
    rfl
@[simp] theorem fAll_map (p : D → Bool) (xs : List D) : fAll mu [.d (.lst (xs.map fun d => .bl (p d)))] = some (.bl (xs.all p)) := by
  unfold fAll lstD
  simp [blsD_map, List.all_map]
@[simp] theorem fAny_map (p : D → Bool) (xs : List D) : fAny mu [.d (.lst (xs.map fun d => .bl (p d)))] = some (.bl (xs.any p)) := by
  unfold fAny lstD
  simp [blsD_map, List.any_map]
@[simp] theorem isTyA_d (kc : List Str) (T : String) (x : D) : isTyA kc T mu (.d x) = isTy kc T x := rfl
@[simp] theorem isTyA_cel (kc : List Str) (T : String) (n : Nat) : isTyA kc T mu (.cel n) = match mu[n]? with
    | some (.lst _) => some (T == "list")
    | _ => none := rfl
@[simp] theorem insOf_ins (C : Str) (ks : List Str) (ds : List D) : insOf C mu (.d (.ins C ks ds)) = some (ks, ds) := by
  unfold insOf
  simp
theorem insOf_cel (C : Str) {i : Nat} {ks : List Str} {ds : List D} (h : mu[i]? = some (.ins C ks ds)) : insOf C mu (.cel i) = some (ks, ds) := by
  unfold insOf
  simp [h]
end
/-! ### comprehensions -/
section
variable {vs : List Nat} {i : MI} {t : MG} {mt : MT} {me : ME} {g : Gm} {mu mu1 : Mu} {ds : List D}
theorem lcL_pure {n : Nat} {t : MG} {mt : MT} {me : ME} {g : Gm} {mu : Mu} (hn : mu.length = n) (p : D → Bool) (f : D → D) : ∀ (ds : List D) (acc : List D), acc.length + ds.length ≤ 16777216 → (∀ d ∈ ds, ∀ acc, ∃ g1, t (.d d) g = some g1 ∧ mt g1 (mu ++ [.lst acc]) = .ok (p d) (mu ++ [.lst acc]) ∧ (p d = true → me g1 (mu ++ [.lst acc]) = .ok (.d (f d)) (mu ++ [.lst acc]))) → lcL n g t mt me ds (mu ++ [.lst acc]) = .ok () (mu ++ [.lst (acc ++ (ds.filter p).map f)])
  | [], acc, _, _ => by simp [lcL]
  | d :: ds, acc, hl, h => by
    obtain ⟨g1, h1, h2, h3⟩ := h d (by simp) acc
    have ih : ∀ acc : List D, acc.length + ds.length ≤ 16777216 → lcL n g t mt me ds (mu ++ [.lst acc]) = .ok () (mu ++ [.lst (acc ++ (ds.filter p).map f)]) := fun acc hl => lcL_pure hn p f ds acc hl fun d hd => h d (by simp [hd])
    have hl' : acc.length + (ds.length + 1) ≤ 16777216 := hl
    unfold lcL
    rw [h1]
    dsimp only
    rw [h2]
    cases hp : p d with
    | true =>
      dsimp only
      rw [h3 hp]
      have e1 : (mu ++ [Cl.lst acc])[n]? = some (.lst acc) := by
        rw [List.getElem?_append_right (by omega)]; simp [hn]
      have e2 : (List.take (n + 1) (mu ++ [Cl.lst acc])).set n (.lst (acc ++ [f d])) = mu ++ [.lst (acc ++ [f d])] := by
        rw [List.take_of_length_le (by simp [hn]), List.set_append_right _ _ (by omega)]; simp [hn]
      dsimp only
      rw [e1]
      dsimp only
      rw [if_pos (by omega), e2, ih _ (by simp; omega)]
      simp [List.filter_cons, hp]
    | false =>
      have e2 : List.take (n + 1) (mu ++ [Cl.lst acc]) = mu ++ [.lst acc] := List.take_of_length_le (by simp [hn])
      dsimp only
      rw [e2, ih acc (by omega)]
      simp [List.filter_cons, hp]
theorem lc_pure (hi : i g mu = .ok ds mu1) (p : D → Bool) (f : D → D) (hl : ds.length ≤ 16777216) (h : ∀ d ∈ ds, ∀ acc, ∃ g1, t (.d d) (wipeG g vs) = some g1 ∧ mt g1 (mu1 ++ [.lst acc]) = .ok (p d) (mu1 ++ [.lst acc]) ∧ (p d = true → me g1 (mu1 ++ [.lst acc]) = .ok (.d (f d)) (mu1 ++ [.lst acc]))) : mLc vs i t mt me g mu = .ok (.d (.lst ((ds.filter p).map f))) mu1 := by
  unfold mLc
  rw [hi, bd_ok, lcL_pure rfl p f ds [] (by simpa using hl) h, bd_ok]
  simp
theorem lc_map (hi : i g mu = .ok ds mu1) (f : D → D) (hl : ds.length ≤ 16777216) (h : ∀ d ∈ ds, ∀ acc, ∃ g1, t (.d d) (wipeG g vs) = some g1 ∧ me g1 (mu1 ++ [.lst acc]) = .ok (.d (f d)) (mu1 ++ [.lst acc])) : mLc vs i t mYes me g mu = .ok (.d (.lst (ds.map f))) mu1 := by
  have q := lc_pure (vs := vs) (t := t) (mt := mYes) (me := me) hi (fun _ => true) f hl fun d hd acc => by
    obtain ⟨g1, a, b⟩ := h d hd acc
    exact ⟨g1, a, rfl, fun _ => b⟩
  have e : ds.filter (fun _ => true) = ds := List.filter_eq_self.mpr fun _ _ => rfl
  rw [e] at q
  exact q
/-- what is kept in the cells between -/
theorem lcL_inv {n : Nat} {t : MG} {me : ME} {g : Gm} (I : Mu → Prop) (Y : D → D → Prop) (hI : ∀ mu, I mu → mu.length = n) : ∀ (ds : List D) (acc : List D) (mu : Mu), I mu → acc.length + ds.length ≤ 16777216 → (∀ d ∈ ds, ∀ acc mu, I mu → ∃ g1 y mu', t (.d d) g = some g1 ∧ me g1 (mu ++ [.lst acc]) = .ok (.d y) (mu' ++ [.lst acc]) ∧ I mu' ∧ Y d y) → ∃ ys mu', lcL n g t mYes me ds (mu ++ [.lst acc]) = .ok () (mu' ++ [.lst (acc ++ ys)]) ∧ I mu' ∧ Fa2 Y ds ys
  | [], acc, mu, hi, _, _ => ⟨[], mu, by simp [lcL], hi, .nil⟩
  | d :: ds, acc, mu, hi, hl, h => by
    obtain ⟨g1, y, mu', h1, h2, h3, h4⟩ := h d (by simp) acc mu hi
    have hl' : acc.length + (ds.length + 1) ≤ 16777216 := hl
    obtain ⟨ys, mu2, e, i2, y2⟩ := lcL_inv (me := me) I Y hI ds (acc ++ [y]) mu' h3 (by simp; omega) fun d hd => h d (by simp [hd])
    refine ⟨y :: ys, mu2, ?_, i2, .cons h4 y2⟩
    have hn := hI _ h3
    have e1 : (mu' ++ [Cl.lst acc])[n]? = some (.lst acc) := by
      rw [List.getElem?_append_right (by omega)]; simp [hn]
    have e2 : (List.take (n + 1) (mu' ++ [Cl.lst acc])).set n (.lst (acc ++ [y])) = mu' ++ [.lst (acc ++ [y])] := by
      rw [List.take_of_length_le (by simp [hn]), List.set_append_right _ _ (by omega)]; simp [hn]
    unfold lcL
    rw [h1]
    dsimp only
    rw [mYes_ap]
    dsimp only
    rw [h2]
    dsimp only
    rw [e1]
    dsimp only
    rw [if_pos (by omega), e2, e]
    simp
theorem lc_inv (I : Mu → Prop) (Y : D → D → Prop) (hI : ∀ mu, I mu → mu.length = mu1.length) (hi : i g mu = .ok ds mu1) (h0 : I mu1) (hl : ds.length ≤ 16777216) (h : ∀ d ∈ ds, ∀ acc mu, I mu → ∃ g1 y mu', t (.d d) (wipeG g vs) = some g1 ∧ me g1 (mu ++ [.lst acc]) = .ok (.d y) (mu' ++ [.lst acc]) ∧ I mu' ∧ Y d y) : ∃ ys mu', mLc vs i t mYes me g mu = .ok (.d (.lst ys)) mu' ∧ I mu' ∧ Fa2 Y ds ys := by
  obtain ⟨ys, mu', e, i1, y1⟩ := lcL_inv (me := me) I Y hI ds [] mu1 h0 (by simpa using hl) h
  refine ⟨ys, mu', ?_, i1, y1⟩
  unfold mLc
  rw [hi, bd_ok, e, bd_ok]
  simp [← hI _ i1]
end
/-! ### loops -/
section
variable {t : MG} {b : MS}
@[simp] theorem forL_nil (g : Gm) (m : Mu) : forL t b [] g m = .nx g m := by unfold forL; rfl
/-- a loop that runs to its end, with what holds between two turns -/
theorem forL_inv (I : List D → Gm → Mu → Prop) : ∀ (ds : List D) (g : Gm) (m : Mu), I ds g m → (∀ d ds g m, I (d :: ds) g m → ∃ g1, t (.d d) g = some g1 ∧ ∃ g2 m2, (b g1 m = .nx g2 m2 ∨ b g1 m = .ct g2 m2) ∧ I ds g2 m2) → ∃ g2 m2, forL t b ds g m = .nx g2 m2 ∧ I [] g2 m2
  | [], g, m, h, _ => ⟨g, m, by simp, h⟩
  | d :: ds, g, m, h, k => by
    obtain ⟨g1, h1, g2, m2, h2, h3⟩ := k d ds g m h
    obtain ⟨g3, m3, e, i⟩ := forL_inv I ds g2 m2 h3 k
    refine ⟨g3, m3, ?_, i⟩
    unfold forL
    rw [h1]
    rcases h2 with h2 | h2 <;> (dsimp only; rw [h2]; exact e)
theorem forL_cons (d : D) (ds : List D) (g : Gm) (m : Mu) : forL t b (d :: ds) g m = match t (.d d) g with
    | none => .stuck
    | some g1 => match b g1 m with
      | .nx g2 m2 => forL t b ds g2 m2
      | .ct g2 m2 => forL t b ds g2 m2
      | .bk g2 m2 => .nx g2 m2
      | .rt x m2 => .rt x m2
      | .exc C ks es g2 m2 => .exc C ks es g2 m2
      | .stuck => .stuck := by
  conv => lhs; unfold forL
  try rfl
/-- a loop over a cell that it does not write -/
theorem forC_inv {n : Nat} {xs : List D} (I : Nat → Gm → Mu → Prop) (hI : ∀ k g m, I k g m → m[n]? = some (.lst xs)) : ∀ (f k : Nat) (g : Gm) (m : Mu), k ≤ xs.length → xs.length - k < f → I k g m → (∀ k g m, I k g m → ∀ d, xs[k]? = some d → ∃ g1, t (.d d) g = some g1 ∧ ∃ g2 m2, (b g1 m = .nx g2 m2 ∨ b g1 m = .ct g2 m2) ∧ I (k + 1) g2 m2) → ∃ g2 m2, forC n t b f k g m = .nx g2 m2 ∧ I xs.length g2 m2
  | 0, _, _, _, _, hf, _, _ => by omega
  | f + 1, k, g, m, hk, hf, h, st => by
    unfold forC
    rw [hI k g m h]
    dsimp only
    by_cases hx : k < xs.length
    · have e : xs[k]? = some xs[k] := by simp [hx]
      rw [e]
      dsimp only
      obtain ⟨g1, h1, g2, m2, h2, h3⟩ := st k g m h _ e
      obtain ⟨g3, m3, e3, i3⟩ := forC_inv (n := n) I hI f (k + 1) g2 m2 hx (by omega) h3 st
      refine ⟨g3, m3, ?_, i3⟩
      rw [h1]
      rcases h2 with h2 | h2 <;> (dsimp only; rw [h2]; exact e3)
    · have e : xs[k]? = none := by simp; omega
      have hk' : k = xs.length := by omega
      rw [e]
      exact ⟨g, m, rfl, hk' ▸ h⟩
end
end Dw
namespace K01
open PySem Dw
def kns : List Str := ["InvalidNumber", "InvalidTable", "InvalidRow", "InvalidRules", "InvalidMachines", "InvalidWants", "InvalidRota", "InvalidDislikes", "InvalidLoads", "InvalidFixed", "InvalidSkills", "InvalidPosts", "InvalidJobs", "InvalidPart", "InvalidQuestion", "InvalidClaim", "TooLarge", "Undefined", "NothingToUndo"]
def kni : List Str := ["InvalidNumber", "InvalidTable", "InvalidRow", "InvalidRules", "InvalidMachines", "InvalidWants", "InvalidRota", "InvalidDislikes", "InvalidLoads", "InvalidFixed", "InvalidSkills", "InvalidPosts", "InvalidJobs", "InvalidPart", "InvalidQuestion", "InvalidClaim"]
def m_law_box : MS := (mSeq (mAsg (mBin fAdd (mBin fMulA (mC (.int 7919)) (mVar 1)) (mC (.int 101))) (gN 2))
    (mSeq (mIfS (mB (mBin fLt (mVar 1) (mCB fLen (mCons (mVar 0) mNil))))
    (mAsg (mCB fAbs (mCons (mBin fIx (mVar 0) (mVar 1)) mNil)) (gN 2))
    (mIfS (mB (mBin fGt (mCB fLen (mCons (mVar 0) mNil)) (mC (.int 0))))
    (mAsg (mBin fAdd (mBin fMulA (mBin fMod (mCB fInt (mCons (mCB fAbs (mCons (mBin fIx (mVar 0) (mBin fMod (mCB fInt (mCons (mVar 1) mNil)) (mCB fLen (mCons (mVar 0) mNil)))) mNil)) mNil)) (mC (.int 1000000007))) (mC (.int 31))) (mBin fMulA (mC (.int 7919)) (mVar 1))) (gN 2))
    mSkip))
    (mSeq (mAsg (mBin fIx (mLst (mCons (mC (.int 0)) (mCons (mVar 2) mNil))) (mCB fInt (mCons (mBin fGe (mVar 2) (mBin fPow (mC (.int 10)) (mC (.int 18)))) mNil))) (gN 3))
    (mRet (mLstC (mCons (mVar 3) (mCons (mBin fAdd (mBin fMod (mCB fInt (mCons (mBin fAdd (mBin fMulA (mBin fMod (mCB fInt (mCons (mVar 2) mNil)) (mC (.int 1000000007))) (mC (.int 48271))) (mBin fMulA (mC (.int 613)) (mVar 1))) mNil)) (mC (.int 2147483647))) (mC (.int 1))) mNil)))))))
def M_law_box : List Ar → Mu → R Ar := fnM 4 m_law_box
def m_law_take : MS := (mSeq (mIfS (mB (mBin fGt (mBin fIx (mVar 0) (mC (.int 0))) (mC (.int 0))))
    (mSeq (mAsg (mBin fMod (mCB fInt (mCons (mBin fIx (mVar 0) (mC (.int 0))) mNil)) (mVar 1)) (gN 2))
    (mSeq (mSetI (mBin fDiv (mBin fIx (mVar 0) (mC (.int 0))) (mVar 1)) (mVar 0) (mC (.int 0)))
    (mRet (mVar 2))))
    mSkip)
    (mSeq (mSetI (mBin fMod (mCB fInt (mCons (mBin fAdd (mBin fMulA (mBin fIx (mVar 0) (mC (.int 1))) (mC (.int 39373))) (mC (.int 69621))) mNil)) (mC (.int 2147483647))) (mVar 0) (mC (.int 1)))
    (mRet (mBin fMod (mCB fInt (mCons (mBin fDiv (mBin fIx (mVar 0) (mC (.int 1))) (mC (.int 8191))) mNil)) (mVar 1)))))
def M_law_take : List Ar → Mu → R Ar := fnM 3 m_law_take
def m_law_pick : MS := (mRet (mBin fIx (mVar 1) (mCall 2 M_law_take (mCons (mVar 0) (mCons (mCB fLen (mCons (mVar 1) mNil)) mNil)))))
def M_law_pick : List Ar → Mu → R Ar := fnM 2 m_law_pick
def m_law_ones : MS := (mSeq (mAsg (mLst (mCons (mXo "InvalidNumber" "value" (mCons (mVar 0) mNil)) (mCons (mXo "InvalidTable" "value" (mCons (mVar 0) mNil)) (mCons (mXo "InvalidRow" "value" (mCons (mVar 0) mNil)) (mCons (mXo "InvalidRules" "value" (mCons (mVar 0) mNil)) (mCons (mXo "InvalidMachines" "value" (mCons (mVar 0) mNil)) (mCons (mXo "InvalidWants" "value" (mCons (mVar 0) mNil)) mNil))))))) (gN 1))
    (mSeq (mAsg (mBin fAdd (mVar 1) (mLst (mCons (mXo "InvalidRota" "value" (mCons (mVar 0) mNil)) (mCons (mXo "InvalidDislikes" "value" (mCons (mVar 0) mNil)) (mCons (mXo "InvalidLoads" "value" (mCons (mVar 0) mNil)) (mCons (mXo "InvalidFixed" "value" (mCons (mVar 0) mNil)) (mCons (mXo "InvalidSkills" "value" (mCons (mVar 0) mNil)) mNil))))))) (gN 1))
    (mRet (mBin fAdd (mVar 1) (mLst (mCons (mXo "InvalidPosts" "value" (mCons (mVar 0) mNil)) (mCons (mXo "InvalidJobs" "value" (mCons (mVar 0) mNil)) (mCons (mXo "InvalidPart" "value" (mCons (mVar 0) mNil)) (mCons (mXo "InvalidQuestion" "value" (mCons (mVar 0) mNil)) (mCons (mXo "InvalidClaim" "value" (mCons (mVar 0) mNil)) mNil))))))))))
def M_law_ones : List Ar → Mu → R Ar := fnM 2 m_law_ones
def m_law_kinds : MS := (mSeq (mAsg (mLst (mCons (mIsX (tbF kns (fun C => decide (C = "InvalidNumber"))) (mVar 0)) (mCons (mIsX (tbF kns (fun C => decide (C = "InvalidTable"))) (mVar 0)) (mCons (mIsX (tbF kns (fun C => decide (C = "InvalidRow"))) (mVar 0)) (mCons (mIsX (tbF kns (fun C => decide (C = "InvalidRules"))) (mVar 0)) mNil))))) (gN 1))
    (mSeq (mAsg (mBin fAdd (mVar 1) (mLst (mCons (mIsX (tbF kns (fun C => decide (C = "InvalidMachines"))) (mVar 0)) (mCons (mIsX (tbF kns (fun C => decide (C = "InvalidWants"))) (mVar 0)) (mCons (mIsX (tbF kns (fun C => decide (C = "InvalidRota"))) (mVar 0)) mNil))))) (gN 1))
    (mSeq (mAsg (mBin fAdd (mVar 1) (mLst (mCons (mIsX (tbF kns (fun C => decide (C = "InvalidDislikes"))) (mVar 0)) (mCons (mIsX (tbF kns (fun C => decide (C = "InvalidLoads"))) (mVar 0)) (mCons (mIsX (tbF kns (fun C => decide (C = "InvalidFixed"))) (mVar 0)) mNil))))) (gN 1))
    (mSeq (mAsg (mBin fAdd (mVar 1) (mLst (mCons (mIsX (tbF kns (fun C => decide (C = "InvalidSkills"))) (mVar 0)) (mCons (mIsX (tbF kns (fun C => decide (C = "InvalidPosts"))) (mVar 0)) (mCons (mIsX (tbF kns (fun C => decide (C = "InvalidJobs"))) (mVar 0)) mNil))))) (gN 1))
    (mSeq (mAsg (mBin fAdd (mVar 1) (mLst (mCons (mIsX (tbF kns (fun C => decide (C = "InvalidPart"))) (mVar 0)) (mCons (mIsX (tbF kns (fun C => decide (C = "InvalidQuestion"))) (mVar 0)) (mCons (mIsX (tbF kns (fun C => decide (C = "InvalidClaim"))) (mVar 0)) mNil))))) (gN 1))
    (mSeq (mAsg (mBin fAdd (mVar 1) (mLst (mCons (mIsX (tbF kns (fun C => decide (C = "TooLarge"))) (mVar 0)) (mCons (mIsX (tbF kns (fun C => decide (C = "Undefined"))) (mVar 0)) (mCons (mIsX (tbF kns (fun C => decide (C = "NothingToUndo"))) (mVar 0)) mNil))))) (gN 1))
    (mRet (mBin fAdd (mVar 1) (mLst (mCons (mIsX (tbF kns (fun _ => true)) (mVar 0)) (mCons (mIsX (tbF kns (fun _ => true)) (mVar 0)) mNil)))))))))))
def M_law_kinds : List Ar → Mu → R Ar := fnM 2 m_law_kinds
def m_law : MS := (mSeq (mAsg (mCall 2 M_law_box (mCons (mVar 0) (mCons (mC (.int 0)) mNil))) (gN 1))
    (mSeq (mAsg (mLst (mCons (mBin fSub (mCall 2 M_law_take (mCons (mVar 1) (mCons (mBin fPow (mC (.int 10)) (mC (.int 6))) mNil))) (mC (.int 500000))) (mCons (mBin fAdd (mC (.str "text ")) (mCB fStr (mCons (mCall 2 M_law_take (mCons (mVar 1) (mCons (mC (.int 99)) mNil))) mNil))) (mCons (mTup (mCons (mC (.int 1)) (mCons (mCall 2 M_law_take (mCons (mVar 1) (mCons (mC (.int 9)) mNil))) mNil))) mNil)))) (gN 2))
    (mSeq (mAsg (mBin fAdd (mVar 2) (mLst (mCons (mLst (mCons (mCall 2 M_law_take (mCons (mVar 1) (mCons (mC (.int 9)) mNil))) mNil)) (mCons (mC .non) (mCons (mC (.bl true)) (mCons (mTup mNil) mNil)))))) (gN 2))
    (mSeq (mAsg (mCall 2 M_law_pick (mCons (mVar 1) (mCons (mVar 2) mNil))) (gN 3))
    (mSeq (mAsg (mCall 1 M_law_ones (mCons (mVar 3) mNil)) (gN 4))
    (mSeq (mFor (mItL (mVar 4)) (gN 5)
    (mIfS (mB (mBin (fEq true) (mXof kni "value" (mVar 5)) (mVar 3)))
    (mRet (mC (.bl false)))
    mSkip))
    (mSeq (mPar3 6 7 8 (mCons (mXo "TooLarge" "many" (mCons (mVar 3) mNil)) (mCons (mXo "Undefined" "what" (mCons (mVar 3) mNil)) (mCons (mXo "NothingToUndo" "word" (mCons (mVar 3) mNil)) mNil))))
    (mSeq (mIfS (mOr (mB (mBin (fEq true) (mXof ["TooLarge"] "many" (mVar 6)) (mVar 3))) (mOr (mB (mBin (fEq true) (mXof ["Undefined"] "what" (mVar 7)) (mVar 3))) (mB (mBin (fEq true) (mXof ["NothingToUndo"] "word" (mVar 8)) (mVar 3)))))
    (mRet (mC (.bl false)))
    mSkip)
    (mSeq (mAsg (mBin fAdd (mVar 4) (mLst (mCons (mVar 6) (mCons (mVar 7) (mCons (mVar 8) mNil))))) (gN 4))
    (mSeq (mFor (mRng1 (mCons (mCB fLen (mCons (mVar 4) mNil)) mNil)) (gN 9)
    (mIfS (mB (mBin (fEq true) (mCall 1 M_law_kinds (mCons (mBin fIx (mVar 4) (mVar 9)) mNil)) (mLc [10] (mRng1 (mCons (mBin fAdd (mCB fLen (mCons (mVar 4) mNil)) (mC (.int 2))) mNil)) (gN 10) mYes (mOrV (mBin (fEq false) (mVar 10) (mVar 9)) (mBin fGe (mVar 10) (mCB fLen (mCons (mVar 4) mNil)))))))
    (mRet (mC (.bl false)))
    mSkip))
    (mRet (mC (.bl true)))))))))))))
def M_law : List Ar → Mu → R Ar := fnM 11 m_law
end K01
namespace K01
open PySem Dw
def bx (x y : Int) : Cl := .lst [.int x, .int y]
/-- a box stands in cell b -/
def Bx (mu : Mu) (b : Nat) : Prop := ∃ x y, mu[b]? = some (bx x y) ∧ 0 ≤ x ∧ 0 ≤ y
def Bm (mu : Mu) (b : Nat) (mu' : Mu) : Prop := ∃ x y, mu' = mu.set b (bx x y) ∧ 0 ≤ x ∧ 0 ≤ y
theorem atI_0 {α : Type} (a : α) (r : List α) : L2.atI (a :: r) 0 = some a := by
  simp [L2.atI, L2.ixN]
theorem atI_1 {α : Type} (a b : α) (r : List α) : L2.atI (a :: b :: r) 1 = some b := by
  have h : (1 : Int) < (r.length : Int) + 1 + 1 := by omega
  simp [L2.atI, L2.ixN, h]
theorem atI_nn {α : Type} {xs : List α} {k : Int} (h1 : 0 ≤ k) (h2 : k < xs.length) : ∃ x, L2.atI xs k = some x ∧ x ∈ xs := by
  have e : k.toNat < xs.length := by omega
  exact ⟨xs[k.toNat], by simp [L2.atI, L2.ixN, h1, h2, e], by simp⟩
@[simp] theorem setC_0 (mu : Mu) (b : Nat) (z x y : Int) (h : mu[b]? = some (.lst [.int x, .int y])) : setC mu (.cel b) (.d (.int 0)) (.int z) = some (mu.set b (bx z y)) := by
  simp [setC, h, L2.ixN, bx]
@[simp] theorem setC_1 (mu : Mu) (b : Nat) (z x y : Int) (h : mu[b]? = some (.lst [.int x, .int y])) : setC mu (.cel b) (.d (.int 1)) (.int z) = some (mu.set b (bx x z)) := by
  simp [setC, h, L2.ixN, bx]
@[simp] theorem take_set (mu : Mu) (b : Nat) (c : Cl) : (mu.set b c).take mu.length = mu.set b c := List.take_of_length_le (by simp)
@[simp] theorem take_app (mu r : Mu) : (mu ++ r).take mu.length = mu := by simp
@[simp] theorem get_app (mu : Mu) (c : Cl) : (mu ++ [c])[mu.length]? = some c := by simp
theorem get_bx {mu : Mu} {b : Nat} {x y : Int} (h : mu[b]? = some (bx x y)) (c : Cl) : (mu.set b c)[b]? = some c := by
  have := (List.getElem?_eq_some_iff.mp h).1
  simp [this]
theorem box_v (T v : Int) (h : 0 ≤ v) : ∃ c, L2.atI [D.int 0, D.int v] (if T ≤ v then 1 else 0) = some (.int c) ∧ 0 ≤ c := by
  by_cases g : T ≤ v
  · exact ⟨v, by simp [g, atI_1], h⟩
  · exact ⟨0, by simp [g, atI_0], by omega⟩
theorem pow_v : ∃ T : Int, ∀ mu, fPow mu (.d (.int 10)) (.d (.int 18)) = some (.int T) := ⟨10 ^ 18, fun mu => by rw [fPow_int]; rfl⟩
theorem box_ok (ns : List Int) (k : Int) (mu : Mu) (hk0 : 0 ≤ k) : ∃ x y, M_law_box [.scr ns, .d (.int k)] mu = .ok (.cel mu.length) (mu ++ [bx x y]) ∧ 0 ≤ x ∧ 0 ≤ y := by
  unfold M_law_box m_law_box
  rw [fnM_ap]
  have q : ∀ z : Int, z % 1000000007 < 18446744073709551616 ∧ -18446744073709551616 < z % 1000000007 := fun z => by omega
  have q1 : ∀ z : Int, 0 ≤ z % 2147483647 + 1 := fun z => by omega
  obtain ⟨T, hT⟩ := pow_v
  by_cases h : k < ns.length
  · obtain ⟨v, h1, h2⟩ := atI_nn (xs := ns) (k := k) (by omega) h
    obtain ⟨c, hc, hc0⟩ := box_v T (if v < 0 then -v else v) (by split <;> omega)
    simp [h, h1, hc, q, hT, -fPow_int]
    exact ⟨_, _, rfl, hc0, q1 _⟩
  · by_cases h0 : 0 < ns.length
    · obtain ⟨v, h1, h2⟩ := atI_nn (xs := ns) (k := k % (ns.length : Int)) (Int.emod_nonneg _ (by omega)) (Int.emod_lt_of_pos _ (by omega))
      obtain ⟨c, hc, hc0⟩ := box_v T ((if v < 0 then -v else v) % 1000000007 * 31 + 7919 * k) (by omega)
      simp [h, h0, h1, hc, q, hT, -fPow_int]
      exact ⟨_, _, rfl, hc0, q1 _⟩
    · obtain ⟨c, hc, hc0⟩ := box_v T (7919 * k + 101) (by omega)
      simp [h, h0, hc, q, hT, -fPow_int]
      exact ⟨_, _, rfl, hc0, q1 _⟩
theorem take_ok (b : Nat) (n : Int) (mu : Mu) (hb : Bx mu b) (h0 : 0 < n) (h1 : n < 1073741824) : ∃ r mu', M_law_take [.cel b, .d (.int n)] mu = .ok (.d (.int r)) mu' ∧ Bm mu b mu' ∧ 0 ≤ r ∧ r < n := by
  obtain ⟨x, y, hx, h2, h3⟩ := hb
  unfold M_law_take m_law_take
  rw [fnM_ap]
  have hx' := hx
  unfold bx at hx
  have e1 : ∀ z : Int, 0 ≤ z % n := fun z => Int.emod_nonneg _ (by omega)
  have e2 : ∀ z : Int, z % n < n := fun z => Int.emod_lt_of_pos _ h0
  by_cases h : 0 < x
  · have e3 : 0 ≤ x / n := Int.ediv_nonneg h2 (by omega)
    simp [hx, atI_0, h, h0, h1, setC_0 mu b _ x y hx, e1, e2]
    exact ⟨_, _, ⟨rfl, rfl⟩, ⟨_, _, rfl, e3, h3⟩, e1 _, e2 _⟩
  · have e4 := setC_1 mu b ((y * 39373 + 69621) % 2147483647) x y hx
    have e5 := get_bx hx' (bx x ((y * 39373 + 69621) % 2147483647))
    have e6 : ∀ z : Int, 0 ≤ z % 2147483647 := fun z => by omega
    unfold bx at e4 e5
    simp [hx, atI_0, atI_1, h, h0, h1, e4, e5]
    exact ⟨_, _, ⟨rfl, rfl⟩, ⟨_, _, rfl, h2, e6 _⟩, e1 _, e2 _⟩

theorem Bm.len {mu mu' : Mu} {b : Nat} (h : Bm mu b mu') : mu'.length = mu.length := by
  obtain ⟨x, y, rfl, _⟩ := h
  simp
theorem Bm.tr {mu m1 m2 : Mu} {b : Nat} (h : Bm mu b m1) (h' : Bm m1 b m2) : Bm mu b m2 := by
  obtain ⟨x, y, rfl, _⟩ := h
  obtain ⟨x', y', rfl, h2⟩ := h'
  exact ⟨x', y', by simp, h2⟩
theorem Bm.bx {mu mu' : Mu} {b : Nat} (h : Bm mu b mu') (hb : Bx mu b) : Bx mu' b := by
  obtain ⟨x, y, rfl, h2⟩ := h
  obtain ⟨x', y', e, _⟩ := hb
  exact ⟨x, y, get_bx e _, h2⟩
theorem Bm.rfl {mu : Mu} {b : Nat} (hb : Bx mu b) : Bm mu b mu := by
  obtain ⟨x, y, e, h2⟩ := hb
  refine ⟨x, y, ?_, h2⟩
  have hl := (List.getElem?_eq_some_iff.mp e).1
  apply List.ext_getElem?
  intro i
  by_cases h : b = i
  · subst h; rw [List.getElem?_set_self hl, e]
  · rw [List.getElem?_set_ne h]
theorem Bx.app {mu : Mu} {b : Nat} (hb : Bx mu b) (r : Mu) : Bx (mu ++ r) b := by
  obtain ⟨x, y, e, h2⟩ := hb
  refine ⟨x, y, ?_, h2⟩
  rw [List.getElem?_append_left (List.getElem?_eq_some_iff.mp e).1, e]
theorem Bm.app {mu mu' r : Mu} {b : Nat} (hb : Bx mu b) (h : Bm (mu ++ r) b mu') : ∃ m1, mu' = m1 ++ r ∧ Bm mu b m1 := by
  obtain ⟨x, y, rfl, h2⟩ := h
  obtain ⟨_, _, e, _⟩ := hb
  refine ⟨mu.set b (K01.bx x y), ?_, x, y, by rfl, h2⟩
  rw [List.set_append_left _ _ (List.getElem?_eq_some_iff.mp e).1]
theorem Bm.get {mu mu' : Mu} {b n : Nat} (h : Bm mu b mu') (hn : n ≠ b) : mu'[n]? = mu[n]? := by
  obtain ⟨x, y, rfl, _⟩ := h
  rw [List.getElem?_set_ne (Ne.symm hn)]
theorem take_take {mu mu' : Mu} {b : Nat} (h : Bm mu b mu') : mu'.take mu.length = mu' := List.take_of_length_le (by rw [h.len]; exact Nat.le_refl _)
theorem pick_ok {b : Nat} {xs : List D} {mu : Mu} (hb : Bx mu b) (h0 : 0 < xs.length) (h1 : xs.length < 1073741824) : ∃ d mu', M_law_pick [.cel b, .d (.lst xs)] mu = .ok (.d d) mu' ∧ Bm mu b mu' ∧ d ∈ xs := by
  obtain ⟨r, mu', e, h2, h3, h4⟩ := take_ok b xs.length mu hb (by omega) (by omega)
  obtain ⟨d, e1, h5⟩ := atI_nn h3 h4
  refine ⟨d, mu', ?_, h2, h5⟩
  unfold M_law_pick m_law_pick
  rw [fnM_ap]
  simp [e, e1, take_take h2]
def nins : D → Bool
  | .ins _ _ _ => false
  | .exo _ _ _ => false
  | _ => true
theorem doks_of : ∀ {xs : List D}, (∀ x ∈ xs, dok x = true) → doks xs = true
  | [], _ => by simp [doks]
  | x :: xs, h => by
    simp only [doks, Bool.and_eq_true]
    exact ⟨h x (by simp), doks_of fun y hy => h y (by simp [hy])⟩
theorem deps_of {k : Nat} : ∀ {xs : List D}, (∀ x ∈ xs, dep x ≤ k) → deps xs ≤ k
  | [], _ => by simp [deps]
  | x :: xs, h => by
    simp only [deps]
    exact Nat.max_le.mpr ⟨h x (by simp), deps_of fun y hy => h y (by simp [hy])⟩
theorem of_doks : ∀ {xs : List D}, doks xs = true → ∀ x ∈ xs, dok x = true
  | y :: xs, h, x, hx => by
    simp only [doks, Bool.and_eq_true] at h
    cases hx with
    | head => exact h.1
    | tail _ hx => exact of_doks h.2 x hx
theorem of_deps {k : Nat} : ∀ {xs : List D}, deps xs ≤ k → ∀ x ∈ xs, dep x ≤ k
  | y :: xs, h, x, hx => by
    simp only [deps] at h
    cases hx with
    | head => omega
    | tail _ hx => exact of_deps (by omega) x hx
/-- what may be compared, of at most k storeys -/
def Ok (k : Nat) (d : D) : Prop := dok d = true ∧ dep d ≤ k
theorem Ok.tup {k : Nat} {xs : List D} (h : ∀ x ∈ xs, Ok k x) : Ok (k + 1) (.tup xs) := by
  refine ⟨?_, ?_⟩
  · simp only [dok]; exact doks_of fun x hx => (h x hx).1
  · simp only [dep]; exact Nat.succ_le_succ (deps_of fun x hx => (h x hx).2)
theorem Ok.lst {k : Nat} {xs : List D} (h : ∀ x ∈ xs, Ok k x) : Ok (k + 1) (.lst xs) := by
  refine ⟨?_, ?_⟩
  · simp only [dok]; exact doks_of fun x hx => (h x hx).1
  · simp only [dep]; exact Nat.succ_le_succ (deps_of fun x hx => (h x hx).2)
theorem Ok.mono {k l : Nat} {d : D} (h : Ok k d) (hl : k ≤ l) : Ok l d := ⟨h.1, Nat.le_trans h.2 hl⟩
theorem Ok.nins {k : Nat} {d : D} (h : Ok k d) : nins d = true := by
  cases d <;> first | rfl | (have := h.1; simp [dok] at this)
mutual
theorem deq_rfl : ∀ (d : D), dok d = true → deq d d = true
  | .non, _ => by simp [deq]
  | .bl _, _ => by simp [deq]
  | .int _, _ => by simp [deq]
  | .str _, _ => by simp [deq]
  | .tup xs, h => by
    simp only [deq]
    exact deqs_rfl xs (by simpa only [dok] using h)
  | .lst xs, h => by
    simp only [deq]
    exact deqs_rfl xs (by simpa only [dok] using h)
  | .ins _ _ _, h => by simp [dok] at h
  | .exo _ _ _, h => by simp [dok] at h
theorem deqs_rfl : ∀ (xs : List D), doks xs = true → deqs xs xs = true
  | [], _ => by simp [deqs]
  | x :: xs, h => by
    simp only [doks, Bool.and_eq_true] at h
    simp only [deqs, Bool.and_eq_true]
    exact ⟨deq_rfl x h.1, deqs_rfl xs h.2⟩
end
theorem strOk_of (s : String) : PyData.strOk (Str.ofString s) = true := by
  unfold PyData.strOk
  rw [PySem.Str.ofString_eq_toList]
  simp
  intro c hc
  have := c.valid
  rcases this with h | h
  · exact Nat.lt_trans h (by decide)
  · exact h.2
theorem strOk_app {a b : Str} (h1 : PyData.strOk a = true) (h2 : PyData.strOk b = true) : PyData.strOk (a ++ b) = true := by
  unfold PyData.strOk at *
  show (a.cps ++ b.cps).all _ = true
  rw [Array.all_append, h1, h2]; rfl
theorem strOk_cut {a : Str} (lo hi : Option Int) (h1 : PyData.strOk a = true) : PyData.strOk (L2.cutS a lo hi) = true := by
  unfold PyData.strOk L2.cutS at *
  simp at *
  intro x hx
  have h := List.mem_of_mem_drop (List.mem_of_mem_take hx)
  obtain ⟨i, hi, e⟩ := List.getElem_of_mem h
  rw [← e]
  simpa using h1 i (by simpa using hi)
theorem log_ok {i : Int} (h1 : -(2 ^ 64) < i) (h2 : i < 2 ^ 64) : i.natAbs.log2 < 1920 := by
  by_cases h : i.natAbs = 0
  · rw [h]; simp
  · have : i.natAbs.log2 < 64 := (Nat.log2_lt h).mpr (by omega)
    omega
end K01
namespace K01
open PySem Dw
def law_1 : MS := (mAsg (mCall 2 M_law_box (mCons (mVar 0) (mCons (mC (.int 0)) mNil))) (gN 1))
def law_2 : MS := (mAsg (mLst (mCons (mBin fSub (mCall 2 M_law_take (mCons (mVar 1) (mCons (mBin fPow (mC (.int 10)) (mC (.int 6))) mNil))) (mC (.int 500000))) (mCons (mBin fAdd (mC (.str "text ")) (mCB fStr (mCons (mCall 2 M_law_take (mCons (mVar 1) (mCons (mC (.int 99)) mNil))) mNil))) (mCons (mTup (mCons (mC (.int 1)) (mCons (mCall 2 M_law_take (mCons (mVar 1) (mCons (mC (.int 9)) mNil))) mNil))) mNil)))) (gN 2))
def law_3 : MS := (mAsg (mBin fAdd (mVar 2) (mLst (mCons (mLst (mCons (mCall 2 M_law_take (mCons (mVar 1) (mCons (mC (.int 9)) mNil))) mNil)) (mCons (mC .non) (mCons (mC (.bl true)) (mCons (mTup mNil) mNil)))))) (gN 2))
def law_4 : MS := (mAsg (mCall 2 M_law_pick (mCons (mVar 1) (mCons (mVar 2) mNil))) (gN 3))
def law_5 : MS := (mAsg (mCall 1 M_law_ones (mCons (mVar 3) mNil)) (gN 4))
def law_6 : MS := (mFor (mItL (mVar 4)) (gN 5)
    (mIfS (mB (mBin (fEq true) (mXof kni "value" (mVar 5)) (mVar 3)))
    (mRet (mC (.bl false)))
    mSkip))
def law_7 : MS := (mPar3 6 7 8 (mCons (mXo "TooLarge" "many" (mCons (mVar 3) mNil)) (mCons (mXo "Undefined" "what" (mCons (mVar 3) mNil)) (mCons (mXo "NothingToUndo" "word" (mCons (mVar 3) mNil)) mNil))))
def law_8 : MS := (mIfS (mOr (mB (mBin (fEq true) (mXof ["TooLarge"] "many" (mVar 6)) (mVar 3))) (mOr (mB (mBin (fEq true) (mXof ["Undefined"] "what" (mVar 7)) (mVar 3))) (mB (mBin (fEq true) (mXof ["NothingToUndo"] "word" (mVar 8)) (mVar 3)))))
    (mRet (mC (.bl false)))
    mSkip)
def law_9 : MS := (mAsg (mBin fAdd (mVar 4) (mLst (mCons (mVar 6) (mCons (mVar 7) (mCons (mVar 8) mNil))))) (gN 4))
def law_10 : MS := (mFor (mRng1 (mCons (mCB fLen (mCons (mVar 4) mNil)) mNil)) (gN 9)
    (mIfS (mB (mBin (fEq true) (mCall 1 M_law_kinds (mCons (mBin fIx (mVar 4) (mVar 9)) mNil)) (mLc [10] (mRng1 (mCons (mBin fAdd (mCB fLen (mCons (mVar 4) mNil)) (mC (.int 2))) mNil)) (gN 10) mYes (mOrV (mBin (fEq false) (mVar 10) (mVar 9)) (mBin fGe (mVar 10) (mCB fLen (mCons (mVar 4) mNil)))))))
    (mRet (mC (.bl false)))
    mSkip))
def law_11 : MS := (mRet (mC (.bl true)))
theorem law_is : m_law = (mSeq law_1 (mSeq law_2 (mSeq law_3 (mSeq law_4 (mSeq law_5 (mSeq law_6 (mSeq law_7 (mSeq law_8 (mSeq law_9 (mSeq law_10 law_11)))))))))) := rfl

def kfs : List (Str × Str) := (kni.map fun C => (C, ("value" : Str))) ++ [(("TooLarge" : Str), ("many" : Str)), (("Undefined" : Str), ("what" : Str)), (("NothingToUndo" : Str), ("word" : Str))]
theorem kfs_1 : kfs.map (·.1) = kns := by decide +kernel
theorem kfs_len : kfs.length = 19 := by decide +kernel
theorem tb_in {kn : List Str} {C : Str} (h : C ∈ kn) (p : Str → Bool) : tbF kn p C = some (p C) := by
  unfold tbF
  rw [if_pos h]
theorem ones_ok (v : D) (mu : Mu) : M_law_ones [.d v] mu = .ok (.d (.lst (kni.map fun C => .exo C "value" v))) mu := by
  unfold M_law_ones m_law_ones kni
  rw [fnM_ap]
  simp
theorem kinds_ok {C f : Str} {v : D} (mu : Mu) (h : C ∈ kns) : M_law_kinds [.d (.exo C f v)] mu = .ok (.d (.lst ((kns.map (fun T => decide (C = T)) ++ [true, true]).map .bl))) mu := by
  have e : ∀ p, tbF kns p C = some (p C) := tb_in h
  unfold M_law_kinds m_law_kinds
  rw [fnM_ap]
  simp [e]
  simp [kns]
theorem tab_ok : ∀ k : Fin 19, kns.map (fun T => decide ((kns.getD k.val "") = T)) ++ [true, true] = (List.range 21).map fun (j : Nat) => decide ((j : Int) = (k.val : Nat)) || decide (19 ≤ (j : Int)) := by decide +kernel
theorem str_ok : ∀ k : Fin 99, (Str.ofString "text ").length + (Str.ofString (Int.repr (k.val : Nat))).length ≤ 16777216 := by decide +kernel
theorem ne_same {k : Nat} {x : D} (mu : Mu) (h : Ok k x) (hk : k ≤ 64) : fEq true mu (.d x) (.d x) = some (.bl false) := by
  have := h.2
  rw [fEq_d mu true h.1 h.1 (by omega) (by omega), deq_rfl x h.1]
  rfl
theorem seq_go {a b : MS} {g g1 : Gm} {m m1 : Mu} {x : Ar} (h : a g m = .nx g1 m1) (k : ∃ m', b g1 m1 = .rt x m') : ∃ m', mSeq a b g m = .rt x m' := by
  rw [mSeq_ap, h]; exact k
theorem Ok.int (k : Nat) (i : Int) : Ok k (.int i) := ⟨by simp [dok], by simp [dep]⟩
theorem Ok.bl (k : Nat) (i : Bool) : Ok k (.bl i) := ⟨by simp [dok], by simp [dep]⟩
theorem Ok.non (k : Nat) : Ok k .non := ⟨by simp [dok], by simp [dep]⟩
section
variable {ns : List Int}
theorem st_2 (mu : Mu) (hb : Bx mu 0) : ∃ sm mu', law_2 [some (.scr ns), some (.cel 0), none, none, none, none, none, none, none, none, none] mu = .nx [some (.scr ns), some (.cel 0), some (.d (.lst sm)), none, none, none, none, none, none, none, none] mu' ∧ Bx mu' 0 ∧ sm.length = 3 ∧ ∀ x ∈ sm, Ok 2 x := by
  obtain ⟨r1, m1, e1, b1, p1, q1⟩ := take_ok 0 1000000 mu hb (by omega) (by omega)
  obtain ⟨r2, m2, e2, b2, p2, q2⟩ := take_ok 0 99 m1 (b1.bx hb) (by omega) (by omega)
  obtain ⟨r3, m3, e3, b3, p3, q3⟩ := take_ok 0 9 m2 (b2.bx (b1.bx hb)) (by omega) (by omega)
  have hlog := log_ok (i := r2) (by omega) (by omega)
  have hs := str_ok ⟨r2.toNat, by omega⟩
  have hn : ((r2.toNat : Nat) : Int) = r2 := by omega
  simp only [hn] at hs
  refine ⟨[.int (r1 - 500000), .str ("text " ++ Str.ofString r2.repr), .tup [.int 1, .int r3]], m3, ?_, b3.bx (b2.bx (b1.bx hb)), rfl, ?_⟩
  · unfold law_2
    simp [e1, e2, e3, hlog, hs]
  · simp only [List.forall_mem_cons]
    refine ⟨Ok.int _ _, ⟨?_, by simp [dep]⟩, ?_, by simp⟩
    · simp only [dok]
      exact strOk_app (strOk_of _) (strOk_of _)
    · refine Ok.tup (k := 1) fun x hx => ?_
      simp only [List.mem_cons, List.not_mem_nil, or_false] at hx
      rcases hx with rfl | rfl <;> exact Ok.int _ _
theorem st_3 (mu : Mu) (sm : List D) (hb : Bx mu 0) (hl : sm.length = 3) (ho : ∀ x ∈ sm, Ok 2 x) : ∃ sm' mu', law_3 [some (.scr ns), some (.cel 0), some (.d (.lst sm)), none, none, none, none, none, none, none, none] mu = .nx [some (.scr ns), some (.cel 0), some (.d (.lst sm')), none, none, none, none, none, none, none, none] mu' ∧ Bx mu' 0 ∧ sm'.length = 7 ∧ ∀ x ∈ sm', Ok 2 x := by
  obtain ⟨r1, m1, e1, b1, p1, q1⟩ := take_ok 0 9 mu hb (by omega) (by omega)
  have hs : sm.length + 4 ≤ 16777216 := by omega
  refine ⟨sm ++ [.lst [.int r1], .non, .bl true, .tup []], m1, ?_, b1.bx hb, by simp [hl], ?_⟩
  · unfold law_3
    simp [e1]
    simp at hs
    simp [hs]
  · intro x hx
    rcases List.mem_append.mp hx with h | h
    · exact ho x h
    · revert x
      simp only [List.mem_cons, List.not_mem_nil, or_false]
      rintro x - (rfl | rfl | rfl | rfl)
      · exact (Ok.lst (k := 0) fun y hy => by rw [List.mem_singleton.mp hy]; exact Ok.int _ _).mono (by omega)
      · exact Ok.non _
      · exact Ok.bl _ _
      · exact (Ok.tup (k := 0) (by simp)).mono (by omega)
theorem st_6 {sm : List D} {v : D} (mu : Mu) (ho : Ok 2 v) : ∃ a5, law_6 [some (.scr ns), some (.cel 0), some (.d (.lst sm)), some (.d v), some (.d (.lst (kni.map fun C => .exo C "value" v))), none, none, none, none, none, none] mu = .nx [some (.scr ns), some (.cel 0), some (.d (.lst sm)), some (.d v), some (.d (.lst (kni.map fun C => .exo C "value" v))), a5, none, none, none, none, none] mu := by
  have lp := forL_inv (t := gN 5) (b := (mIfS (mB (mBin (fEq true) (mXof kni "value" (mVar 5)) (mVar 3)))
    (mRet (mC (.bl false)))
    mSkip))
    (fun ds g m => ∃ a5, m = mu ∧ (∀ d ∈ ds, ∃ C ∈ kni, d = .exo C "value" v) ∧ g = [some (.scr ns), some (.cel 0), some (.d (.lst sm)), some (.d v), some (.d (.lst (kni.map fun C => .exo C "value" v))), a5, none, none, none, none, none])
    (kni.map fun C => .exo C "value" v) [some (.scr ns), some (.cel 0), some (.d (.lst sm)), some (.d v), some (.d (.lst (kni.map fun C => .exo C "value" v))), none, none, none, none, none, none] mu ⟨none, rfl, fun d hd => by
      obtain ⟨C, hC, rfl⟩ := List.mem_map.mp hd
      exact ⟨C, hC, rfl⟩, rfl⟩ fun d ds g m ⟨a5, e, hd, hg⟩ => by
      subst e hg
      obtain ⟨C, hC, rfl⟩ := hd d (by simp)
      have e1 := ne_same m ho (by omega)
      exact ⟨_, rfl, _, _, .inl (by simp [hC, e1]), some (.d (.exo C "value" v)), rfl, fun x hx => hd x (by simp [hx]), rfl⟩
  obtain ⟨g2, m2, e3, a5, rfl, _, rfl⟩ := lp
  refine ⟨a5, ?_⟩
  unfold law_6
  simp [e3]
theorem all_0 (v : D) : (kni.map fun C => D.exo C "value" v) ++ [.exo "TooLarge" "many" v, .exo "Undefined" "what" v, .exo "NothingToUndo" "word" v] = kfs.map fun p => .exo p.1 p.2 v := by
  unfold kfs
  simp
theorem rng_len (lo : Int) (n : Nat) : (rngD lo n).length = n := by simp [rngD]
theorem lst_ok (bs : List Bool) : Ok 1 (.lst (bs.map D.bl)) := Ok.lst (k := 0) fun x hx => by
  obtain ⟨b, _, rfl⟩ := List.mem_map.mp hx
  exact Ok.bl _ _
theorem st_10 {sm : List D} {v : D} {a5 : Option Ar} (mu : Mu) : ∃ a9, law_10 [some (.scr ns), some (.cel 0), some (.d (.lst sm)), some (.d v), some (.d (.lst (kfs.map fun p => .exo p.1 p.2 v))), a5, some (.d (.exo "TooLarge" "many" v)), some (.d (.exo "Undefined" "what" v)), some (.d (.exo "NothingToUndo" "word" v)), none, none] mu = .nx [some (.scr ns), some (.cel 0), some (.d (.lst sm)), some (.d v), some (.d (.lst (kfs.map fun p => .exo p.1 p.2 v))), a5, some (.d (.exo "TooLarge" "many" v)), some (.d (.exo "Undefined" "what" v)), some (.d (.exo "NothingToUndo" "word" v)), a9, none] mu := by
  have lp := forL_inv (t := gN 9) (b := (mIfS (mB (mBin (fEq true) (mCall 1 M_law_kinds (mCons (mBin fIx (mVar 4) (mVar 9)) mNil)) (mLc [10] (mRng1 (mCons (mBin fAdd (mCB fLen (mCons (mVar 4) mNil)) (mC (.int 2))) mNil)) (gN 10) mYes (mOrV (mBin (fEq false) (mVar 10) (mVar 9)) (mBin fGe (mVar 10) (mCB fLen (mCons (mVar 4) mNil)))))))
    (mRet (mC (.bl false)))
    mSkip))
    (fun ds g m => ∃ a9, m = mu ∧ (∀ d ∈ ds, ∃ k : Nat, k < 19 ∧ d = .int k) ∧ g = [some (.scr ns), some (.cel 0), some (.d (.lst sm)), some (.d v), some (.d (.lst (kfs.map fun p => .exo p.1 p.2 v))), a5, some (.d (.exo "TooLarge" "many" v)), some (.d (.exo "Undefined" "what" v)), some (.d (.exo "NothingToUndo" "word" v)), a9, none])
    (rngD 0 19) [some (.scr ns), some (.cel 0), some (.d (.lst sm)), some (.d v), some (.d (.lst (kfs.map fun p => .exo p.1 p.2 v))), a5, some (.d (.exo "TooLarge" "many" v)), some (.d (.exo "Undefined" "what" v)), some (.d (.exo "NothingToUndo" "word" v)), none, none] mu ⟨none, rfl, fun d hd => by
      unfold rngD at hd
      obtain ⟨k, hk, rfl⟩ := List.mem_map.mp hd
      exact ⟨k, List.mem_range.mp hk, by simp⟩, rfl⟩ fun d ds g m ⟨a9, e, hd, hg⟩ => by
      subst e hg
      obtain ⟨k, hk, rfl⟩ := hd d (by simp)
      refine ⟨_, rfl, [some (.scr ns), some (.cel 0), some (.d (.lst sm)), some (.d v), some (.d (.lst (kfs.map fun p => .exo p.1 p.2 v))), a5, some (.d (.exo "TooLarge" "many" v)), some (.d (.exo "Undefined" "what" v)), some (.d (.exo "NothingToUndo" "word" v)), some (.d (.int k)), none], m, .inl ?_, some (.d (.int k)), rfl, fun x hx => hd x (by simp [hx]), rfl⟩
      have hkl : k < kfs.length := by rw [kfs_len]; exact hk
      have hkl2 : k < kns.length := by rw [← kfs_1, List.length_map, kfs_len]; exact hk
      have ek : kfs[k].1 = kns[k] := by
        have := congrArg (fun l => l[k]?) kfs_1
        simp [hkl, hkl2] at this
        exact this
      have e1 : L2.atI (kfs.map fun p => D.exo p.1 p.2 v) (k : Int) = some (.exo kns[k] kfs[k].2 v) := by
        have h2 : (k : Int) < kfs.length := by omega
        simp [L2.atI, L2.ixN, h2, hkl, ek]
        exact ⟨ek, rfl⟩
      have e2 := kinds_ok (f := kfs[k].2) (v := v) m (C := kns[k]) (List.getElem_mem hkl2)
      have q := lc_map (vs := [10]) (i := (mRng1 (mCons (mBin fAdd (mCB fLen (mCons (mVar 4) mNil)) (mC (.int 2))) mNil))) (t := gN 10) (me := (mOrV (mBin (fEq false) (mVar 10) (mVar 9)) (mBin fGe (mVar 10) (mCB fLen (mCons (mVar 4) mNil))))) (g := [some (.scr ns), some (.cel 0), some (.d (.lst sm)), some (.d v), some (.d (.lst (kfs.map fun p => .exo p.1 p.2 v))), a5, some (.d (.exo "TooLarge" "many" v)), some (.d (.exo "Undefined" "what" v)), some (.d (.exo "NothingToUndo" "word" v)), some (.d (.int k)), none]) (mu := m) (mu1 := m) (ds := rngD 0 21) (by simp [kfs_len]) (fun d => match d with
        | .int j => .bl (decide (j = (k : Int)) || decide (19 ≤ j))
        | d => d) (by rw [rng_len]; omega) fun d hd acc => by
          unfold rngD at hd
          obtain ⟨j, hj, rfl⟩ := List.mem_map.mp hd
          refine ⟨_, rfl, ?_⟩
          by_cases hjk : (j : Int) = k
          · simp [wipeG, hjk, kfs_len]
          · simp [wipeG, hjk, kfs_len]
      have e3 : (rngD 0 21).map (fun d => match d with
        | .int j => D.bl (decide (j = (k : Int)) || decide (19 ≤ j))
        | d => d) = (kns.map (fun T => decide (kns[k] = T)) ++ [true, true]).map .bl := by
        have t := tab_ok ⟨k, hk⟩
        simp only [List.getD_eq_getElem?_getD, List.getElem?_eq_getElem hkl2, Option.getD_some] at t
        rw [t]
        unfold rngD
        simp
      rw [e3] at q
      have e4 := ne_same m (lst_ok (kns.map (fun T => decide (kns[k] = T)) ++ [true, true])) (by omega)
      simp only [List.set_cons_succ, List.set_cons_zero]
      have q1 : (mB (mBin (fEq true) (mCall 1 M_law_kinds (mCons (mBin fIx (mVar 4) (mVar 9)) mNil)) (mLc [10] (mRng1 (mCons (mBin fAdd (mCB fLen (mCons (mVar 4) mNil)) (mC (.int 2))) mNil)) (gN 10) mYes (mOrV (mBin (fEq false) (mVar 10) (mVar 9)) (mBin fGe (mVar 10) (mCB fLen (mCons (mVar 4) mNil))))))) [some (.scr ns), some (.cel 0), some (.d (.lst sm)), some (.d v), some (.d (.lst (kfs.map fun p => .exo p.1 p.2 v))), a5, some (.d (.exo "TooLarge" "many" v)), some (.d (.exo "Undefined" "what" v)), some (.d (.exo "NothingToUndo" "word" v)), some (.d (.int k)), none] m = .ok false m := by
        rw [mB_ap, mBin_ap, mCall_ap, mCons_ap, mBin_ap]
        simp only [mVar_ap, List.getElem?_cons_succ, List.getElem?_cons_zero, bd_ok, fIx_lst, e1, mNil_ap, List.length_cons, List.length_nil, if_true, e2, q, e4]
        try rfl
      rw [mIfS_ap, q1]
      rfl
  obtain ⟨g2, m2, e3, a9, rfl, _, rfl⟩ := lp
  refine ⟨a9, ?_⟩
  unfold law_10
  simp [kfs_len, e3]
end
theorem M_law_true : ∀ ns : List Int, ns.length ≤ 63 → ∃ m, M_law [.scr ns] [] = .ok (.d (.bl true)) m := by
  intro ns _
  have fin : (∃ m', m_law [some (.scr ns), none, none, none, none, none, none, none, none, none, none] [] = .rt (.d (.bl true)) m') → ∃ m, M_law [.scr ns] [] = .ok (.d (.bl true)) m := fun ⟨m', e⟩ => by
    refine ⟨m'.take 0, ?_⟩
    unfold M_law
    rw [fnM_ap]
    show RS.fn 0 (m_law [some (.scr ns), none, none, none, none, none, none, none, none, none, none] []) = _
    rw [e]
    rfl
  apply fin
  rw [law_is]
  obtain ⟨x0, y0, e0, x00, y00⟩ := box_ok ns 0 [] (by omega)
  refine seq_go (g1 := [some (.scr ns), some (.cel 0), none, none, none, none, none, none, none, none, none]) (m1 := [bx x0 y0]) (by unfold law_1; simp at e0; simp [e0]) ?_
  have hb0 : Bx [bx x0 y0] 0 := ⟨x0, y0, rfl, x00, y00⟩
  obtain ⟨sm, m2, e2, hb2, l2, o2⟩ := st_2 (ns := ns) _ hb0
  refine seq_go e2 ?_
  obtain ⟨sm, m3, e3, hb3, l3, o3⟩ := st_3 (ns := ns) _ sm hb2 l2 o2
  refine seq_go e3 ?_
  obtain ⟨v, m4, e4, b4, hv⟩ := pick_ok (xs := sm) hb3 (by omega) (by omega)
  have ho := o3 v hv
  refine seq_go (g1 := [some (.scr ns), some (.cel 0), some (.d (.lst sm)), some (.d v), none, none, none, none, none, none, none]) (m1 := m4) (by unfold law_4; simp [e4]) ?_
  refine seq_go (g1 := [some (.scr ns), some (.cel 0), some (.d (.lst sm)), some (.d v), some (.d (.lst (kni.map fun C => .exo C "value" v))), none, none, none, none, none, none]) (m1 := m4) (by unfold law_5; simp [ones_ok]) ?_
  obtain ⟨a5, e6⟩ := st_6 (ns := ns) (sm := sm) m4 ho
  refine seq_go e6 ?_
  refine seq_go (g1 := [some (.scr ns), some (.cel 0), some (.d (.lst sm)), some (.d v), some (.d (.lst (kni.map fun C => .exo C "value" v))), a5, some (.d (.exo "TooLarge" "many" v)), some (.d (.exo "Undefined" "what" v)), some (.d (.exo "NothingToUndo" "word" v)), none, none]) (m1 := m4) (by unfold law_7; simp) ?_
  have en := ne_same m4 ho (by omega)
  refine seq_go (g1 := [some (.scr ns), some (.cel 0), some (.d (.lst sm)), some (.d v), some (.d (.lst (kni.map fun C => .exo C "value" v))), a5, some (.d (.exo "TooLarge" "many" v)), some (.d (.exo "Undefined" "what" v)), some (.d (.exo "NothingToUndo" "word" v)), none, none]) (m1 := m4) (by unfold law_8; simp [en]) ?_
  have hk16 : kni.length = 16 := by decide +kernel
  refine seq_go (g1 := [some (.scr ns), some (.cel 0), some (.d (.lst sm)), some (.d v), some (.d (.lst (kfs.map fun p => .exo p.1 p.2 v))), a5, some (.d (.exo "TooLarge" "many" v)), some (.d (.exo "Undefined" "what" v)), some (.d (.exo "NothingToUndo" "word" v)), none, none]) (m1 := m4) (by unfold law_9; simp [hk16]; exact all_0 v) ?_
  obtain ⟨a9, e10⟩ := st_10 (ns := ns) (sm := sm) (v := v) (a5 := a5) m4
  refine seq_go e10 ?_
  exact ⟨m4, by unfold law_11; simp⟩
end K01
namespace K01
open PySem PySem.Spec PyProof.Rows L2 Dw
def top (i : Nat) : Stmt := PySem.Challenge.pw_dutyweeks_k01_errors.main.body.getD i (.Pass ⟨0, 0, 0, 0⟩)
abbrev s_law_box : Stmt := (top 22)
abbrev n_law_box : List Str := ["script", "k", "cell", "great"]
theorem sc_law_box : FnScope ["script", "k", "cell", "great"] ["script", "k"] (defScope s_law_box) := ⟨rfl, rfl, rfl, by decide +kernel, rfl, by decide +kernel, by decide +kernel⟩
abbrev s_law_take : Stmt := (top 23)
abbrev n_law_take : List Str := ["box", "many", "got"]
theorem sc_law_take : FnScope ["box", "many", "got"] ["box", "many"] (defScope s_law_take) := ⟨rfl, rfl, rfl, by decide +kernel, rfl, by decide +kernel, by decide +kernel⟩
abbrev s_law_pick : Stmt := (top 24)
abbrev n_law_pick : List Str := ["box", "some"]
theorem sc_law_pick : FnScope ["box", "some"] ["box", "some"] (defScope s_law_pick) := ⟨rfl, rfl, rfl, by decide +kernel, rfl, by decide +kernel, by decide +kernel⟩
abbrev s_law_ones : Stmt := (top 25)
abbrev n_law_ones : List Str := ["v", "found"]
theorem sc_law_ones : FnScope ["v", "found"] ["v"] (defScope s_law_ones) := ⟨rfl, rfl, rfl, by decide +kernel, rfl, by decide +kernel, by decide +kernel⟩
abbrev s_law_kinds : Stmt := (top 26)
abbrev n_law_kinds : List Str := ["e", "found"]
theorem sc_law_kinds : FnScope ["e", "found"] ["e"] (defScope s_law_kinds) := ⟨rfl, rfl, rfl, by decide +kernel, rfl, by decide +kernel, by decide +kernel⟩
abbrev s_law : Stmt := (top 27)
abbrev n_law : List Str := ["script", "box", "some", "v", "errors", "one", "many", "what", "word", "k", "j"]
theorem sc_law : FnScope ["script", "box", "some", "v", "errors", "one", "many", "what", "word", "k", "j"] ["script"] (defScope s_law) := ⟨rfl, rfl, rfl, by decide +kernel, rfl, by decide +kernel, by decide +kernel⟩
abbrev s_InvalidNumber_init : Stmt := inClass (top 2) 0
theorem sc_InvalidNumber_init : FnScope ["self", "value"] ["self", "value"] (defScope s_InvalidNumber_init) := ⟨rfl, rfl, rfl, by decide +kernel, rfl, by decide +kernel, by decide +kernel⟩
abbrev s_InvalidTable_init : Stmt := inClass (top 3) 0
theorem sc_InvalidTable_init : FnScope ["self", "value"] ["self", "value"] (defScope s_InvalidTable_init) := ⟨rfl, rfl, rfl, by decide +kernel, rfl, by decide +kernel, by decide +kernel⟩
abbrev s_InvalidRow_init : Stmt := inClass (top 4) 0
theorem sc_InvalidRow_init : FnScope ["self", "value"] ["self", "value"] (defScope s_InvalidRow_init) := ⟨rfl, rfl, rfl, by decide +kernel, rfl, by decide +kernel, by decide +kernel⟩
abbrev s_InvalidRules_init : Stmt := inClass (top 5) 0
theorem sc_InvalidRules_init : FnScope ["self", "value"] ["self", "value"] (defScope s_InvalidRules_init) := ⟨rfl, rfl, rfl, by decide +kernel, rfl, by decide +kernel, by decide +kernel⟩
abbrev s_InvalidMachines_init : Stmt := inClass (top 6) 0
theorem sc_InvalidMachines_init : FnScope ["self", "value"] ["self", "value"] (defScope s_InvalidMachines_init) := ⟨rfl, rfl, rfl, by decide +kernel, rfl, by decide +kernel, by decide +kernel⟩
abbrev s_InvalidWants_init : Stmt := inClass (top 7) 0
theorem sc_InvalidWants_init : FnScope ["self", "value"] ["self", "value"] (defScope s_InvalidWants_init) := ⟨rfl, rfl, rfl, by decide +kernel, rfl, by decide +kernel, by decide +kernel⟩
abbrev s_InvalidRota_init : Stmt := inClass (top 8) 0
theorem sc_InvalidRota_init : FnScope ["self", "value"] ["self", "value"] (defScope s_InvalidRota_init) := ⟨rfl, rfl, rfl, by decide +kernel, rfl, by decide +kernel, by decide +kernel⟩
abbrev s_InvalidDislikes_init : Stmt := inClass (top 9) 0
theorem sc_InvalidDislikes_init : FnScope ["self", "value"] ["self", "value"] (defScope s_InvalidDislikes_init) := ⟨rfl, rfl, rfl, by decide +kernel, rfl, by decide +kernel, by decide +kernel⟩
abbrev s_InvalidLoads_init : Stmt := inClass (top 10) 0
theorem sc_InvalidLoads_init : FnScope ["self", "value"] ["self", "value"] (defScope s_InvalidLoads_init) := ⟨rfl, rfl, rfl, by decide +kernel, rfl, by decide +kernel, by decide +kernel⟩
abbrev s_InvalidFixed_init : Stmt := inClass (top 11) 0
theorem sc_InvalidFixed_init : FnScope ["self", "value"] ["self", "value"] (defScope s_InvalidFixed_init) := ⟨rfl, rfl, rfl, by decide +kernel, rfl, by decide +kernel, by decide +kernel⟩
abbrev s_InvalidSkills_init : Stmt := inClass (top 12) 0
theorem sc_InvalidSkills_init : FnScope ["self", "value"] ["self", "value"] (defScope s_InvalidSkills_init) := ⟨rfl, rfl, rfl, by decide +kernel, rfl, by decide +kernel, by decide +kernel⟩
abbrev s_InvalidPosts_init : Stmt := inClass (top 13) 0
theorem sc_InvalidPosts_init : FnScope ["self", "value"] ["self", "value"] (defScope s_InvalidPosts_init) := ⟨rfl, rfl, rfl, by decide +kernel, rfl, by decide +kernel, by decide +kernel⟩
abbrev s_InvalidJobs_init : Stmt := inClass (top 14) 0
theorem sc_InvalidJobs_init : FnScope ["self", "value"] ["self", "value"] (defScope s_InvalidJobs_init) := ⟨rfl, rfl, rfl, by decide +kernel, rfl, by decide +kernel, by decide +kernel⟩
abbrev s_InvalidPart_init : Stmt := inClass (top 15) 0
theorem sc_InvalidPart_init : FnScope ["self", "value"] ["self", "value"] (defScope s_InvalidPart_init) := ⟨rfl, rfl, rfl, by decide +kernel, rfl, by decide +kernel, by decide +kernel⟩
abbrev s_InvalidQuestion_init : Stmt := inClass (top 16) 0
theorem sc_InvalidQuestion_init : FnScope ["self", "value"] ["self", "value"] (defScope s_InvalidQuestion_init) := ⟨rfl, rfl, rfl, by decide +kernel, rfl, by decide +kernel, by decide +kernel⟩
abbrev s_InvalidClaim_init : Stmt := inClass (top 17) 0
theorem sc_InvalidClaim_init : FnScope ["self", "value"] ["self", "value"] (defScope s_InvalidClaim_init) := ⟨rfl, rfl, rfl, by decide +kernel, rfl, by decide +kernel, by decide +kernel⟩
abbrev s_TooLarge_init : Stmt := inClass (top 18) 0
theorem sc_TooLarge_init : FnScope ["self", "many"] ["self", "many"] (defScope s_TooLarge_init) := ⟨rfl, rfl, rfl, by decide +kernel, rfl, by decide +kernel, by decide +kernel⟩
abbrev s_Undefined_init : Stmt := inClass (top 19) 0
theorem sc_Undefined_init : FnScope ["self", "what"] ["self", "what"] (defScope s_Undefined_init) := ⟨rfl, rfl, rfl, by decide +kernel, rfl, by decide +kernel, by decide +kernel⟩
abbrev s_NothingToUndo_init : Stmt := inClass (top 20) 0
theorem sc_NothingToUndo_init : FnScope ["self", "word"] ["self", "word"] (defScope s_NothingToUndo_init) := ⟨rfl, rfl, rfl, by decide +kernel, rfl, by decide +kernel, by decide +kernel⟩
structure Tx (K : PySem.W.Frag) (mg : Str → Option Value) where
  f_law_box : Addr
  fd_law_box : FuncData
  F_law_box : Fun K "_law_box" "_law_box" s_law_box f_law_box fd_law_box
  b_law_box : Binds K fd_law_box ["script", "k"] []
  m_law_box : mg "_law_box" = some (.ref f_law_box)
  f_law_take : Addr
  fd_law_take : FuncData
  F_law_take : Fun K "_law_take" "_law_take" s_law_take f_law_take fd_law_take
  b_law_take : Binds K fd_law_take ["box", "many"] []
  m_law_take : mg "_law_take" = some (.ref f_law_take)
  f_law_pick : Addr
  fd_law_pick : FuncData
  F_law_pick : Fun K "_law_pick" "_law_pick" s_law_pick f_law_pick fd_law_pick
  b_law_pick : Binds K fd_law_pick ["box", "some"] []
  m_law_pick : mg "_law_pick" = some (.ref f_law_pick)
  f_law_ones : Addr
  fd_law_ones : FuncData
  F_law_ones : Fun K "_law_ones" "_law_ones" s_law_ones f_law_ones fd_law_ones
  b_law_ones : Binds K fd_law_ones ["v"] []
  m_law_ones : mg "_law_ones" = some (.ref f_law_ones)
  f_law_kinds : Addr
  fd_law_kinds : FuncData
  F_law_kinds : Fun K "_law_kinds" "_law_kinds" s_law_kinds f_law_kinds fd_law_kinds
  b_law_kinds : Binds K fd_law_kinds ["e"] []
  m_law_kinds : mg "_law_kinds" = some (.ref f_law_kinds)
  f_law : Addr
  fd_law : FuncData
  F_law : Fun K "law" "law" s_law f_law fd_law
  b_law : Binds K fd_law ["script"] []
  m_law : mg "law" = some (.ref f_law)
  a_InvalidNumber : Addr
  m_InvalidNumber : mg "InvalidNumber" = some (.ref a_InvalidNumber)
  f_InvalidNumber_init : Addr
  fd_InvalidNumber_init : FuncData
  F_InvalidNumber_init : Fun K "__init__" "InvalidNumber.__init__" s_InvalidNumber_init f_InvalidNumber_init fd_InvalidNumber_init
  b_InvalidNumber_init : Binds K fd_InvalidNumber_init ["self", "value"] []
  o_InvalidNumber : OexC K a_InvalidNumber
  in_InvalidNumber : PySem.W.findIn K (.ref a_InvalidNumber) "__init__" = some (some (.ref f_InvalidNumber_init))
  ti_InvalidNumber : PySem.W.typeIn K (.ref f_InvalidNumber_init) = some (.type "function")
  x_InvalidNumber_no : PySem.W.findIn K (.ref a_InvalidNumber) "value" = some none
  x_InvalidNumber_xf : XfC K a_InvalidNumber
  a_InvalidTable : Addr
  m_InvalidTable : mg "InvalidTable" = some (.ref a_InvalidTable)
  f_InvalidTable_init : Addr
  fd_InvalidTable_init : FuncData
  F_InvalidTable_init : Fun K "__init__" "InvalidTable.__init__" s_InvalidTable_init f_InvalidTable_init fd_InvalidTable_init
  b_InvalidTable_init : Binds K fd_InvalidTable_init ["self", "value"] []
  o_InvalidTable : OexC K a_InvalidTable
  in_InvalidTable : PySem.W.findIn K (.ref a_InvalidTable) "__init__" = some (some (.ref f_InvalidTable_init))
  ti_InvalidTable : PySem.W.typeIn K (.ref f_InvalidTable_init) = some (.type "function")
  x_InvalidTable_no : PySem.W.findIn K (.ref a_InvalidTable) "value" = some none
  x_InvalidTable_xf : XfC K a_InvalidTable
  a_InvalidRow : Addr
  m_InvalidRow : mg "InvalidRow" = some (.ref a_InvalidRow)
  f_InvalidRow_init : Addr
  fd_InvalidRow_init : FuncData
  F_InvalidRow_init : Fun K "__init__" "InvalidRow.__init__" s_InvalidRow_init f_InvalidRow_init fd_InvalidRow_init
  b_InvalidRow_init : Binds K fd_InvalidRow_init ["self", "value"] []
  o_InvalidRow : OexC K a_InvalidRow
  in_InvalidRow : PySem.W.findIn K (.ref a_InvalidRow) "__init__" = some (some (.ref f_InvalidRow_init))
  ti_InvalidRow : PySem.W.typeIn K (.ref f_InvalidRow_init) = some (.type "function")
  x_InvalidRow_no : PySem.W.findIn K (.ref a_InvalidRow) "value" = some none
  x_InvalidRow_xf : XfC K a_InvalidRow
  a_InvalidRules : Addr
  m_InvalidRules : mg "InvalidRules" = some (.ref a_InvalidRules)
  f_InvalidRules_init : Addr
  fd_InvalidRules_init : FuncData
  F_InvalidRules_init : Fun K "__init__" "InvalidRules.__init__" s_InvalidRules_init f_InvalidRules_init fd_InvalidRules_init
  b_InvalidRules_init : Binds K fd_InvalidRules_init ["self", "value"] []
  o_InvalidRules : OexC K a_InvalidRules
  in_InvalidRules : PySem.W.findIn K (.ref a_InvalidRules) "__init__" = some (some (.ref f_InvalidRules_init))
  ti_InvalidRules : PySem.W.typeIn K (.ref f_InvalidRules_init) = some (.type "function")
  x_InvalidRules_no : PySem.W.findIn K (.ref a_InvalidRules) "value" = some none
  x_InvalidRules_xf : XfC K a_InvalidRules
  a_InvalidMachines : Addr
  m_InvalidMachines : mg "InvalidMachines" = some (.ref a_InvalidMachines)
  f_InvalidMachines_init : Addr
  fd_InvalidMachines_init : FuncData
  F_InvalidMachines_init : Fun K "__init__" "InvalidMachines.__init__" s_InvalidMachines_init f_InvalidMachines_init fd_InvalidMachines_init
  b_InvalidMachines_init : Binds K fd_InvalidMachines_init ["self", "value"] []
  o_InvalidMachines : OexC K a_InvalidMachines
  in_InvalidMachines : PySem.W.findIn K (.ref a_InvalidMachines) "__init__" = some (some (.ref f_InvalidMachines_init))
  ti_InvalidMachines : PySem.W.typeIn K (.ref f_InvalidMachines_init) = some (.type "function")
  x_InvalidMachines_no : PySem.W.findIn K (.ref a_InvalidMachines) "value" = some none
  x_InvalidMachines_xf : XfC K a_InvalidMachines
  a_InvalidWants : Addr
  m_InvalidWants : mg "InvalidWants" = some (.ref a_InvalidWants)
  f_InvalidWants_init : Addr
  fd_InvalidWants_init : FuncData
  F_InvalidWants_init : Fun K "__init__" "InvalidWants.__init__" s_InvalidWants_init f_InvalidWants_init fd_InvalidWants_init
  b_InvalidWants_init : Binds K fd_InvalidWants_init ["self", "value"] []
  o_InvalidWants : OexC K a_InvalidWants
  in_InvalidWants : PySem.W.findIn K (.ref a_InvalidWants) "__init__" = some (some (.ref f_InvalidWants_init))
  ti_InvalidWants : PySem.W.typeIn K (.ref f_InvalidWants_init) = some (.type "function")
  x_InvalidWants_no : PySem.W.findIn K (.ref a_InvalidWants) "value" = some none
  x_InvalidWants_xf : XfC K a_InvalidWants
  a_InvalidRota : Addr
  m_InvalidRota : mg "InvalidRota" = some (.ref a_InvalidRota)
  f_InvalidRota_init : Addr
  fd_InvalidRota_init : FuncData
  F_InvalidRota_init : Fun K "__init__" "InvalidRota.__init__" s_InvalidRota_init f_InvalidRota_init fd_InvalidRota_init
  b_InvalidRota_init : Binds K fd_InvalidRota_init ["self", "value"] []
  o_InvalidRota : OexC K a_InvalidRota
  in_InvalidRota : PySem.W.findIn K (.ref a_InvalidRota) "__init__" = some (some (.ref f_InvalidRota_init))
  ti_InvalidRota : PySem.W.typeIn K (.ref f_InvalidRota_init) = some (.type "function")
  x_InvalidRota_no : PySem.W.findIn K (.ref a_InvalidRota) "value" = some none
  x_InvalidRota_xf : XfC K a_InvalidRota
  a_InvalidDislikes : Addr
  m_InvalidDislikes : mg "InvalidDislikes" = some (.ref a_InvalidDislikes)
  f_InvalidDislikes_init : Addr
  fd_InvalidDislikes_init : FuncData
  F_InvalidDislikes_init : Fun K "__init__" "InvalidDislikes.__init__" s_InvalidDislikes_init f_InvalidDislikes_init fd_InvalidDislikes_init
  b_InvalidDislikes_init : Binds K fd_InvalidDislikes_init ["self", "value"] []
  o_InvalidDislikes : OexC K a_InvalidDislikes
  in_InvalidDislikes : PySem.W.findIn K (.ref a_InvalidDislikes) "__init__" = some (some (.ref f_InvalidDislikes_init))
  ti_InvalidDislikes : PySem.W.typeIn K (.ref f_InvalidDislikes_init) = some (.type "function")
  x_InvalidDislikes_no : PySem.W.findIn K (.ref a_InvalidDislikes) "value" = some none
  x_InvalidDislikes_xf : XfC K a_InvalidDislikes
  a_InvalidLoads : Addr
  m_InvalidLoads : mg "InvalidLoads" = some (.ref a_InvalidLoads)
  f_InvalidLoads_init : Addr
  fd_InvalidLoads_init : FuncData
  F_InvalidLoads_init : Fun K "__init__" "InvalidLoads.__init__" s_InvalidLoads_init f_InvalidLoads_init fd_InvalidLoads_init
  b_InvalidLoads_init : Binds K fd_InvalidLoads_init ["self", "value"] []
  o_InvalidLoads : OexC K a_InvalidLoads
  in_InvalidLoads : PySem.W.findIn K (.ref a_InvalidLoads) "__init__" = some (some (.ref f_InvalidLoads_init))
  ti_InvalidLoads : PySem.W.typeIn K (.ref f_InvalidLoads_init) = some (.type "function")
  x_InvalidLoads_no : PySem.W.findIn K (.ref a_InvalidLoads) "value" = some none
  x_InvalidLoads_xf : XfC K a_InvalidLoads
  a_InvalidFixed : Addr
  m_InvalidFixed : mg "InvalidFixed" = some (.ref a_InvalidFixed)
  f_InvalidFixed_init : Addr
  fd_InvalidFixed_init : FuncData
  F_InvalidFixed_init : Fun K "__init__" "InvalidFixed.__init__" s_InvalidFixed_init f_InvalidFixed_init fd_InvalidFixed_init
  b_InvalidFixed_init : Binds K fd_InvalidFixed_init ["self", "value"] []
  o_InvalidFixed : OexC K a_InvalidFixed
  in_InvalidFixed : PySem.W.findIn K (.ref a_InvalidFixed) "__init__" = some (some (.ref f_InvalidFixed_init))
  ti_InvalidFixed : PySem.W.typeIn K (.ref f_InvalidFixed_init) = some (.type "function")
  x_InvalidFixed_no : PySem.W.findIn K (.ref a_InvalidFixed) "value" = some none
  x_InvalidFixed_xf : XfC K a_InvalidFixed
  a_InvalidSkills : Addr
  m_InvalidSkills : mg "InvalidSkills" = some (.ref a_InvalidSkills)
  f_InvalidSkills_init : Addr
  fd_InvalidSkills_init : FuncData
  F_InvalidSkills_init : Fun K "__init__" "InvalidSkills.__init__" s_InvalidSkills_init f_InvalidSkills_init fd_InvalidSkills_init
  b_InvalidSkills_init : Binds K fd_InvalidSkills_init ["self", "value"] []
  o_InvalidSkills : OexC K a_InvalidSkills
  in_InvalidSkills : PySem.W.findIn K (.ref a_InvalidSkills) "__init__" = some (some (.ref f_InvalidSkills_init))
  ti_InvalidSkills : PySem.W.typeIn K (.ref f_InvalidSkills_init) = some (.type "function")
  x_InvalidSkills_no : PySem.W.findIn K (.ref a_InvalidSkills) "value" = some none
  x_InvalidSkills_xf : XfC K a_InvalidSkills
  a_InvalidPosts : Addr
  m_InvalidPosts : mg "InvalidPosts" = some (.ref a_InvalidPosts)
  f_InvalidPosts_init : Addr
  fd_InvalidPosts_init : FuncData
  F_InvalidPosts_init : Fun K "__init__" "InvalidPosts.__init__" s_InvalidPosts_init f_InvalidPosts_init fd_InvalidPosts_init
  b_InvalidPosts_init : Binds K fd_InvalidPosts_init ["self", "value"] []
  o_InvalidPosts : OexC K a_InvalidPosts
  in_InvalidPosts : PySem.W.findIn K (.ref a_InvalidPosts) "__init__" = some (some (.ref f_InvalidPosts_init))
  ti_InvalidPosts : PySem.W.typeIn K (.ref f_InvalidPosts_init) = some (.type "function")
  x_InvalidPosts_no : PySem.W.findIn K (.ref a_InvalidPosts) "value" = some none
  x_InvalidPosts_xf : XfC K a_InvalidPosts
  a_InvalidJobs : Addr
  m_InvalidJobs : mg "InvalidJobs" = some (.ref a_InvalidJobs)
  f_InvalidJobs_init : Addr
  fd_InvalidJobs_init : FuncData
  F_InvalidJobs_init : Fun K "__init__" "InvalidJobs.__init__" s_InvalidJobs_init f_InvalidJobs_init fd_InvalidJobs_init
  b_InvalidJobs_init : Binds K fd_InvalidJobs_init ["self", "value"] []
  o_InvalidJobs : OexC K a_InvalidJobs
  in_InvalidJobs : PySem.W.findIn K (.ref a_InvalidJobs) "__init__" = some (some (.ref f_InvalidJobs_init))
  ti_InvalidJobs : PySem.W.typeIn K (.ref f_InvalidJobs_init) = some (.type "function")
  x_InvalidJobs_no : PySem.W.findIn K (.ref a_InvalidJobs) "value" = some none
  x_InvalidJobs_xf : XfC K a_InvalidJobs
  a_InvalidPart : Addr
  m_InvalidPart : mg "InvalidPart" = some (.ref a_InvalidPart)
  f_InvalidPart_init : Addr
  fd_InvalidPart_init : FuncData
  F_InvalidPart_init : Fun K "__init__" "InvalidPart.__init__" s_InvalidPart_init f_InvalidPart_init fd_InvalidPart_init
  b_InvalidPart_init : Binds K fd_InvalidPart_init ["self", "value"] []
  o_InvalidPart : OexC K a_InvalidPart
  in_InvalidPart : PySem.W.findIn K (.ref a_InvalidPart) "__init__" = some (some (.ref f_InvalidPart_init))
  ti_InvalidPart : PySem.W.typeIn K (.ref f_InvalidPart_init) = some (.type "function")
  x_InvalidPart_no : PySem.W.findIn K (.ref a_InvalidPart) "value" = some none
  x_InvalidPart_xf : XfC K a_InvalidPart
  a_InvalidQuestion : Addr
  m_InvalidQuestion : mg "InvalidQuestion" = some (.ref a_InvalidQuestion)
  f_InvalidQuestion_init : Addr
  fd_InvalidQuestion_init : FuncData
  F_InvalidQuestion_init : Fun K "__init__" "InvalidQuestion.__init__" s_InvalidQuestion_init f_InvalidQuestion_init fd_InvalidQuestion_init
  b_InvalidQuestion_init : Binds K fd_InvalidQuestion_init ["self", "value"] []
  o_InvalidQuestion : OexC K a_InvalidQuestion
  in_InvalidQuestion : PySem.W.findIn K (.ref a_InvalidQuestion) "__init__" = some (some (.ref f_InvalidQuestion_init))
  ti_InvalidQuestion : PySem.W.typeIn K (.ref f_InvalidQuestion_init) = some (.type "function")
  x_InvalidQuestion_no : PySem.W.findIn K (.ref a_InvalidQuestion) "value" = some none
  x_InvalidQuestion_xf : XfC K a_InvalidQuestion
  a_InvalidClaim : Addr
  m_InvalidClaim : mg "InvalidClaim" = some (.ref a_InvalidClaim)
  f_InvalidClaim_init : Addr
  fd_InvalidClaim_init : FuncData
  F_InvalidClaim_init : Fun K "__init__" "InvalidClaim.__init__" s_InvalidClaim_init f_InvalidClaim_init fd_InvalidClaim_init
  b_InvalidClaim_init : Binds K fd_InvalidClaim_init ["self", "value"] []
  o_InvalidClaim : OexC K a_InvalidClaim
  in_InvalidClaim : PySem.W.findIn K (.ref a_InvalidClaim) "__init__" = some (some (.ref f_InvalidClaim_init))
  ti_InvalidClaim : PySem.W.typeIn K (.ref f_InvalidClaim_init) = some (.type "function")
  x_InvalidClaim_no : PySem.W.findIn K (.ref a_InvalidClaim) "value" = some none
  x_InvalidClaim_xf : XfC K a_InvalidClaim
  a_TooLarge : Addr
  m_TooLarge : mg "TooLarge" = some (.ref a_TooLarge)
  f_TooLarge_init : Addr
  fd_TooLarge_init : FuncData
  F_TooLarge_init : Fun K "__init__" "TooLarge.__init__" s_TooLarge_init f_TooLarge_init fd_TooLarge_init
  b_TooLarge_init : Binds K fd_TooLarge_init ["self", "many"] []
  o_TooLarge : OexC K a_TooLarge
  in_TooLarge : PySem.W.findIn K (.ref a_TooLarge) "__init__" = some (some (.ref f_TooLarge_init))
  ti_TooLarge : PySem.W.typeIn K (.ref f_TooLarge_init) = some (.type "function")
  x_TooLarge_no : PySem.W.findIn K (.ref a_TooLarge) "many" = some none
  x_TooLarge_xf : XfC K a_TooLarge
  a_Undefined : Addr
  m_Undefined : mg "Undefined" = some (.ref a_Undefined)
  f_Undefined_init : Addr
  fd_Undefined_init : FuncData
  F_Undefined_init : Fun K "__init__" "Undefined.__init__" s_Undefined_init f_Undefined_init fd_Undefined_init
  b_Undefined_init : Binds K fd_Undefined_init ["self", "what"] []
  o_Undefined : OexC K a_Undefined
  in_Undefined : PySem.W.findIn K (.ref a_Undefined) "__init__" = some (some (.ref f_Undefined_init))
  ti_Undefined : PySem.W.typeIn K (.ref f_Undefined_init) = some (.type "function")
  x_Undefined_no : PySem.W.findIn K (.ref a_Undefined) "what" = some none
  x_Undefined_xf : XfC K a_Undefined
  a_NothingToUndo : Addr
  m_NothingToUndo : mg "NothingToUndo" = some (.ref a_NothingToUndo)
  f_NothingToUndo_init : Addr
  fd_NothingToUndo_init : FuncData
  F_NothingToUndo_init : Fun K "__init__" "NothingToUndo.__init__" s_NothingToUndo_init f_NothingToUndo_init fd_NothingToUndo_init
  b_NothingToUndo_init : Binds K fd_NothingToUndo_init ["self", "word"] []
  o_NothingToUndo : OexC K a_NothingToUndo
  in_NothingToUndo : PySem.W.findIn K (.ref a_NothingToUndo) "__init__" = some (some (.ref f_NothingToUndo_init))
  ti_NothingToUndo : PySem.W.typeIn K (.ref f_NothingToUndo_init) = some (.type "function")
  x_NothingToUndo_no : PySem.W.findIn K (.ref a_NothingToUndo) "word" = some none
  x_NothingToUndo_xf : XfC K a_NothingToUndo
  n_ValueError : mg "ValueError" = none
  n_abs : mg "abs" = none
  n_int : mg "int" = none
  n_isinstance : mg "isinstance" = none
  n_len : mg "len" = none
  n_range : mg "range" = none
  n_str : mg "str" = none
  a_DutyError : Addr
  m_DutyError : mg "DutyError" = some (.ref a_DutyError)
  is_InvalidNumber : ∀ C b, tbF kns (fun C => decide (C = "InvalidNumber")) C = some b → ∀ Da, mg C = some (.ref Da) → ExcC K Da ∧ PySem.W.kitOne K (.ref Da) (.ref a_InvalidNumber) = some b
  is_InvalidTable : ∀ C b, tbF kns (fun C => decide (C = "InvalidTable")) C = some b → ∀ Da, mg C = some (.ref Da) → ExcC K Da ∧ PySem.W.kitOne K (.ref Da) (.ref a_InvalidTable) = some b
  is_InvalidRow : ∀ C b, tbF kns (fun C => decide (C = "InvalidRow")) C = some b → ∀ Da, mg C = some (.ref Da) → ExcC K Da ∧ PySem.W.kitOne K (.ref Da) (.ref a_InvalidRow) = some b
  is_InvalidRules : ∀ C b, tbF kns (fun C => decide (C = "InvalidRules")) C = some b → ∀ Da, mg C = some (.ref Da) → ExcC K Da ∧ PySem.W.kitOne K (.ref Da) (.ref a_InvalidRules) = some b
  is_InvalidMachines : ∀ C b, tbF kns (fun C => decide (C = "InvalidMachines")) C = some b → ∀ Da, mg C = some (.ref Da) → ExcC K Da ∧ PySem.W.kitOne K (.ref Da) (.ref a_InvalidMachines) = some b
  is_InvalidWants : ∀ C b, tbF kns (fun C => decide (C = "InvalidWants")) C = some b → ∀ Da, mg C = some (.ref Da) → ExcC K Da ∧ PySem.W.kitOne K (.ref Da) (.ref a_InvalidWants) = some b
  is_InvalidRota : ∀ C b, tbF kns (fun C => decide (C = "InvalidRota")) C = some b → ∀ Da, mg C = some (.ref Da) → ExcC K Da ∧ PySem.W.kitOne K (.ref Da) (.ref a_InvalidRota) = some b
  is_InvalidDislikes : ∀ C b, tbF kns (fun C => decide (C = "InvalidDislikes")) C = some b → ∀ Da, mg C = some (.ref Da) → ExcC K Da ∧ PySem.W.kitOne K (.ref Da) (.ref a_InvalidDislikes) = some b
  is_InvalidLoads : ∀ C b, tbF kns (fun C => decide (C = "InvalidLoads")) C = some b → ∀ Da, mg C = some (.ref Da) → ExcC K Da ∧ PySem.W.kitOne K (.ref Da) (.ref a_InvalidLoads) = some b
  is_InvalidFixed : ∀ C b, tbF kns (fun C => decide (C = "InvalidFixed")) C = some b → ∀ Da, mg C = some (.ref Da) → ExcC K Da ∧ PySem.W.kitOne K (.ref Da) (.ref a_InvalidFixed) = some b
  is_InvalidSkills : ∀ C b, tbF kns (fun C => decide (C = "InvalidSkills")) C = some b → ∀ Da, mg C = some (.ref Da) → ExcC K Da ∧ PySem.W.kitOne K (.ref Da) (.ref a_InvalidSkills) = some b
  is_InvalidPosts : ∀ C b, tbF kns (fun C => decide (C = "InvalidPosts")) C = some b → ∀ Da, mg C = some (.ref Da) → ExcC K Da ∧ PySem.W.kitOne K (.ref Da) (.ref a_InvalidPosts) = some b
  is_InvalidJobs : ∀ C b, tbF kns (fun C => decide (C = "InvalidJobs")) C = some b → ∀ Da, mg C = some (.ref Da) → ExcC K Da ∧ PySem.W.kitOne K (.ref Da) (.ref a_InvalidJobs) = some b
  is_InvalidPart : ∀ C b, tbF kns (fun C => decide (C = "InvalidPart")) C = some b → ∀ Da, mg C = some (.ref Da) → ExcC K Da ∧ PySem.W.kitOne K (.ref Da) (.ref a_InvalidPart) = some b
  is_InvalidQuestion : ∀ C b, tbF kns (fun C => decide (C = "InvalidQuestion")) C = some b → ∀ Da, mg C = some (.ref Da) → ExcC K Da ∧ PySem.W.kitOne K (.ref Da) (.ref a_InvalidQuestion) = some b
  is_InvalidClaim : ∀ C b, tbF kns (fun C => decide (C = "InvalidClaim")) C = some b → ∀ Da, mg C = some (.ref Da) → ExcC K Da ∧ PySem.W.kitOne K (.ref Da) (.ref a_InvalidClaim) = some b
  is_TooLarge : ∀ C b, tbF kns (fun C => decide (C = "TooLarge")) C = some b → ∀ Da, mg C = some (.ref Da) → ExcC K Da ∧ PySem.W.kitOne K (.ref Da) (.ref a_TooLarge) = some b
  is_Undefined : ∀ C b, tbF kns (fun C => decide (C = "Undefined")) C = some b → ∀ Da, mg C = some (.ref Da) → ExcC K Da ∧ PySem.W.kitOne K (.ref Da) (.ref a_Undefined) = some b
  is_NothingToUndo : ∀ C b, tbF kns (fun C => decide (C = "NothingToUndo")) C = some b → ∀ Da, mg C = some (.ref Da) → ExcC K Da ∧ PySem.W.kitOne K (.ref Da) (.ref a_NothingToUndo) = some b
  is_DutyError : ∀ C b, tbF kns (fun _ => true) C = some b → ∀ Da, mg C = some (.ref Da) → ExcC K Da ∧ PySem.W.kitOne K (.ref Da) (.ref a_DutyError) = some b
  is_ValueError : ∀ C b, tbF kns (fun _ => true) C = some b → ∀ Da, mg C = some (.ref Da) → ExcC K Da ∧ PySem.W.kitOne K (.ref Da) (.type "ValueError") = some b
section
variable {P : Program} {w : World} {K : PySem.W.Frag} {mg : Str → Option Value} {base : Heap}
theorem ok_InvalidNumber_init (T : Tx K mg) : FnOk P w K mg base (L2.CX P w) 1 T.f_InvalidNumber_init T.fd_InvalidNumber_init ["self", "value"] (spX T.a_InvalidNumber "value") :=
  xinit T.F_InvalidNumber_init sc_InvalidNumber_init T.o_InvalidNumber T.x_InvalidNumber_no (fun cdv A outer s H E => pss_one (ps_ost (pv 0) (pv 1)))
theorem Tx.x_InvalidNumber (T : Tx K mg) (P : Program) (w : World) (base : Heap) : XC K mg P w base "InvalidNumber" "value" := ⟨T.a_InvalidNumber, T.f_InvalidNumber_init, T.fd_InvalidNumber_init, T.m_InvalidNumber, T.o_InvalidNumber, T.in_InvalidNumber, T.ti_InvalidNumber, ok_InvalidNumber_init T, T.b_InvalidNumber_init⟩
theorem ok_InvalidTable_init (T : Tx K mg) : FnOk P w K mg base (L2.CX P w) 1 T.f_InvalidTable_init T.fd_InvalidTable_init ["self", "value"] (spX T.a_InvalidTable "value") :=
  xinit T.F_InvalidTable_init sc_InvalidTable_init T.o_InvalidTable T.x_InvalidTable_no (fun cdv A outer s H E => pss_one (ps_ost (pv 0) (pv 1)))
theorem Tx.x_InvalidTable (T : Tx K mg) (P : Program) (w : World) (base : Heap) : XC K mg P w base "InvalidTable" "value" := ⟨T.a_InvalidTable, T.f_InvalidTable_init, T.fd_InvalidTable_init, T.m_InvalidTable, T.o_InvalidTable, T.in_InvalidTable, T.ti_InvalidTable, ok_InvalidTable_init T, T.b_InvalidTable_init⟩
theorem ok_InvalidRow_init (T : Tx K mg) : FnOk P w K mg base (L2.CX P w) 1 T.f_InvalidRow_init T.fd_InvalidRow_init ["self", "value"] (spX T.a_InvalidRow "value") :=
  xinit T.F_InvalidRow_init sc_InvalidRow_init T.o_InvalidRow T.x_InvalidRow_no (fun cdv A outer s H E => pss_one (ps_ost (pv 0) (pv 1)))
theorem Tx.x_InvalidRow (T : Tx K mg) (P : Program) (w : World) (base : Heap) : XC K mg P w base "InvalidRow" "value" := ⟨T.a_InvalidRow, T.f_InvalidRow_init, T.fd_InvalidRow_init, T.m_InvalidRow, T.o_InvalidRow, T.in_InvalidRow, T.ti_InvalidRow, ok_InvalidRow_init T, T.b_InvalidRow_init⟩
theorem ok_InvalidRules_init (T : Tx K mg) : FnOk P w K mg base (L2.CX P w) 1 T.f_InvalidRules_init T.fd_InvalidRules_init ["self", "value"] (spX T.a_InvalidRules "value") :=
  xinit T.F_InvalidRules_init sc_InvalidRules_init T.o_InvalidRules T.x_InvalidRules_no (fun cdv A outer s H E => pss_one (ps_ost (pv 0) (pv 1)))
theorem Tx.x_InvalidRules (T : Tx K mg) (P : Program) (w : World) (base : Heap) : XC K mg P w base "InvalidRules" "value" := ⟨T.a_InvalidRules, T.f_InvalidRules_init, T.fd_InvalidRules_init, T.m_InvalidRules, T.o_InvalidRules, T.in_InvalidRules, T.ti_InvalidRules, ok_InvalidRules_init T, T.b_InvalidRules_init⟩
theorem ok_InvalidMachines_init (T : Tx K mg) : FnOk P w K mg base (L2.CX P w) 1 T.f_InvalidMachines_init T.fd_InvalidMachines_init ["self", "value"] (spX T.a_InvalidMachines "value") :=
  xinit T.F_InvalidMachines_init sc_InvalidMachines_init T.o_InvalidMachines T.x_InvalidMachines_no (fun cdv A outer s H E => pss_one (ps_ost (pv 0) (pv 1)))
theorem Tx.x_InvalidMachines (T : Tx K mg) (P : Program) (w : World) (base : Heap) : XC K mg P w base "InvalidMachines" "value" := ⟨T.a_InvalidMachines, T.f_InvalidMachines_init, T.fd_InvalidMachines_init, T.m_InvalidMachines, T.o_InvalidMachines, T.in_InvalidMachines, T.ti_InvalidMachines, ok_InvalidMachines_init T, T.b_InvalidMachines_init⟩
theorem ok_InvalidWants_init (T : Tx K mg) : FnOk P w K mg base (L2.CX P w) 1 T.f_InvalidWants_init T.fd_InvalidWants_init ["self", "value"] (spX T.a_InvalidWants "value") :=
  xinit T.F_InvalidWants_init sc_InvalidWants_init T.o_InvalidWants T.x_InvalidWants_no (fun cdv A outer s H E => pss_one (ps_ost (pv 0) (pv 1)))
theorem Tx.x_InvalidWants (T : Tx K mg) (P : Program) (w : World) (base : Heap) : XC K mg P w base "InvalidWants" "value" := ⟨T.a_InvalidWants, T.f_InvalidWants_init, T.fd_InvalidWants_init, T.m_InvalidWants, T.o_InvalidWants, T.in_InvalidWants, T.ti_InvalidWants, ok_InvalidWants_init T, T.b_InvalidWants_init⟩
theorem ok_InvalidRota_init (T : Tx K mg) : FnOk P w K mg base (L2.CX P w) 1 T.f_InvalidRota_init T.fd_InvalidRota_init ["self", "value"] (spX T.a_InvalidRota "value") :=
  xinit T.F_InvalidRota_init sc_InvalidRota_init T.o_InvalidRota T.x_InvalidRota_no (fun cdv A outer s H E => pss_one (ps_ost (pv 0) (pv 1)))
theorem Tx.x_InvalidRota (T : Tx K mg) (P : Program) (w : World) (base : Heap) : XC K mg P w base "InvalidRota" "value" := ⟨T.a_InvalidRota, T.f_InvalidRota_init, T.fd_InvalidRota_init, T.m_InvalidRota, T.o_InvalidRota, T.in_InvalidRota, T.ti_InvalidRota, ok_InvalidRota_init T, T.b_InvalidRota_init⟩
theorem ok_InvalidDislikes_init (T : Tx K mg) : FnOk P w K mg base (L2.CX P w) 1 T.f_InvalidDislikes_init T.fd_InvalidDislikes_init ["self", "value"] (spX T.a_InvalidDislikes "value") :=
  xinit T.F_InvalidDislikes_init sc_InvalidDislikes_init T.o_InvalidDislikes T.x_InvalidDislikes_no (fun cdv A outer s H E => pss_one (ps_ost (pv 0) (pv 1)))
theorem Tx.x_InvalidDislikes (T : Tx K mg) (P : Program) (w : World) (base : Heap) : XC K mg P w base "InvalidDislikes" "value" := ⟨T.a_InvalidDislikes, T.f_InvalidDislikes_init, T.fd_InvalidDislikes_init, T.m_InvalidDislikes, T.o_InvalidDislikes, T.in_InvalidDislikes, T.ti_InvalidDislikes, ok_InvalidDislikes_init T, T.b_InvalidDislikes_init⟩
theorem ok_InvalidLoads_init (T : Tx K mg) : FnOk P w K mg base (L2.CX P w) 1 T.f_InvalidLoads_init T.fd_InvalidLoads_init ["self", "value"] (spX T.a_InvalidLoads "value") :=
  xinit T.F_InvalidLoads_init sc_InvalidLoads_init T.o_InvalidLoads T.x_InvalidLoads_no (fun cdv A outer s H E => pss_one (ps_ost (pv 0) (pv 1)))
theorem Tx.x_InvalidLoads (T : Tx K mg) (P : Program) (w : World) (base : Heap) : XC K mg P w base "InvalidLoads" "value" := ⟨T.a_InvalidLoads, T.f_InvalidLoads_init, T.fd_InvalidLoads_init, T.m_InvalidLoads, T.o_InvalidLoads, T.in_InvalidLoads, T.ti_InvalidLoads, ok_InvalidLoads_init T, T.b_InvalidLoads_init⟩
theorem ok_InvalidFixed_init (T : Tx K mg) : FnOk P w K mg base (L2.CX P w) 1 T.f_InvalidFixed_init T.fd_InvalidFixed_init ["self", "value"] (spX T.a_InvalidFixed "value") :=
  xinit T.F_InvalidFixed_init sc_InvalidFixed_init T.o_InvalidFixed T.x_InvalidFixed_no (fun cdv A outer s H E => pss_one (ps_ost (pv 0) (pv 1)))
theorem Tx.x_InvalidFixed (T : Tx K mg) (P : Program) (w : World) (base : Heap) : XC K mg P w base "InvalidFixed" "value" := ⟨T.a_InvalidFixed, T.f_InvalidFixed_init, T.fd_InvalidFixed_init, T.m_InvalidFixed, T.o_InvalidFixed, T.in_InvalidFixed, T.ti_InvalidFixed, ok_InvalidFixed_init T, T.b_InvalidFixed_init⟩
theorem ok_InvalidSkills_init (T : Tx K mg) : FnOk P w K mg base (L2.CX P w) 1 T.f_InvalidSkills_init T.fd_InvalidSkills_init ["self", "value"] (spX T.a_InvalidSkills "value") :=
  xinit T.F_InvalidSkills_init sc_InvalidSkills_init T.o_InvalidSkills T.x_InvalidSkills_no (fun cdv A outer s H E => pss_one (ps_ost (pv 0) (pv 1)))
theorem Tx.x_InvalidSkills (T : Tx K mg) (P : Program) (w : World) (base : Heap) : XC K mg P w base "InvalidSkills" "value" := ⟨T.a_InvalidSkills, T.f_InvalidSkills_init, T.fd_InvalidSkills_init, T.m_InvalidSkills, T.o_InvalidSkills, T.in_InvalidSkills, T.ti_InvalidSkills, ok_InvalidSkills_init T, T.b_InvalidSkills_init⟩
theorem ok_InvalidPosts_init (T : Tx K mg) : FnOk P w K mg base (L2.CX P w) 1 T.f_InvalidPosts_init T.fd_InvalidPosts_init ["self", "value"] (spX T.a_InvalidPosts "value") :=
  xinit T.F_InvalidPosts_init sc_InvalidPosts_init T.o_InvalidPosts T.x_InvalidPosts_no (fun cdv A outer s H E => pss_one (ps_ost (pv 0) (pv 1)))
theorem Tx.x_InvalidPosts (T : Tx K mg) (P : Program) (w : World) (base : Heap) : XC K mg P w base "InvalidPosts" "value" := ⟨T.a_InvalidPosts, T.f_InvalidPosts_init, T.fd_InvalidPosts_init, T.m_InvalidPosts, T.o_InvalidPosts, T.in_InvalidPosts, T.ti_InvalidPosts, ok_InvalidPosts_init T, T.b_InvalidPosts_init⟩
theorem ok_InvalidJobs_init (T : Tx K mg) : FnOk P w K mg base (L2.CX P w) 1 T.f_InvalidJobs_init T.fd_InvalidJobs_init ["self", "value"] (spX T.a_InvalidJobs "value") :=
  xinit T.F_InvalidJobs_init sc_InvalidJobs_init T.o_InvalidJobs T.x_InvalidJobs_no (fun cdv A outer s H E => pss_one (ps_ost (pv 0) (pv 1)))
theorem Tx.x_InvalidJobs (T : Tx K mg) (P : Program) (w : World) (base : Heap) : XC K mg P w base "InvalidJobs" "value" := ⟨T.a_InvalidJobs, T.f_InvalidJobs_init, T.fd_InvalidJobs_init, T.m_InvalidJobs, T.o_InvalidJobs, T.in_InvalidJobs, T.ti_InvalidJobs, ok_InvalidJobs_init T, T.b_InvalidJobs_init⟩
theorem ok_InvalidPart_init (T : Tx K mg) : FnOk P w K mg base (L2.CX P w) 1 T.f_InvalidPart_init T.fd_InvalidPart_init ["self", "value"] (spX T.a_InvalidPart "value") :=
  xinit T.F_InvalidPart_init sc_InvalidPart_init T.o_InvalidPart T.x_InvalidPart_no (fun cdv A outer s H E => pss_one (ps_ost (pv 0) (pv 1)))
theorem Tx.x_InvalidPart (T : Tx K mg) (P : Program) (w : World) (base : Heap) : XC K mg P w base "InvalidPart" "value" := ⟨T.a_InvalidPart, T.f_InvalidPart_init, T.fd_InvalidPart_init, T.m_InvalidPart, T.o_InvalidPart, T.in_InvalidPart, T.ti_InvalidPart, ok_InvalidPart_init T, T.b_InvalidPart_init⟩
theorem ok_InvalidQuestion_init (T : Tx K mg) : FnOk P w K mg base (L2.CX P w) 1 T.f_InvalidQuestion_init T.fd_InvalidQuestion_init ["self", "value"] (spX T.a_InvalidQuestion "value") :=
  xinit T.F_InvalidQuestion_init sc_InvalidQuestion_init T.o_InvalidQuestion T.x_InvalidQuestion_no (fun cdv A outer s H E => pss_one (ps_ost (pv 0) (pv 1)))
theorem Tx.x_InvalidQuestion (T : Tx K mg) (P : Program) (w : World) (base : Heap) : XC K mg P w base "InvalidQuestion" "value" := ⟨T.a_InvalidQuestion, T.f_InvalidQuestion_init, T.fd_InvalidQuestion_init, T.m_InvalidQuestion, T.o_InvalidQuestion, T.in_InvalidQuestion, T.ti_InvalidQuestion, ok_InvalidQuestion_init T, T.b_InvalidQuestion_init⟩
theorem ok_InvalidClaim_init (T : Tx K mg) : FnOk P w K mg base (L2.CX P w) 1 T.f_InvalidClaim_init T.fd_InvalidClaim_init ["self", "value"] (spX T.a_InvalidClaim "value") :=
  xinit T.F_InvalidClaim_init sc_InvalidClaim_init T.o_InvalidClaim T.x_InvalidClaim_no (fun cdv A outer s H E => pss_one (ps_ost (pv 0) (pv 1)))
theorem Tx.x_InvalidClaim (T : Tx K mg) (P : Program) (w : World) (base : Heap) : XC K mg P w base "InvalidClaim" "value" := ⟨T.a_InvalidClaim, T.f_InvalidClaim_init, T.fd_InvalidClaim_init, T.m_InvalidClaim, T.o_InvalidClaim, T.in_InvalidClaim, T.ti_InvalidClaim, ok_InvalidClaim_init T, T.b_InvalidClaim_init⟩
theorem ok_TooLarge_init (T : Tx K mg) : FnOk P w K mg base (L2.CX P w) 1 T.f_TooLarge_init T.fd_TooLarge_init ["self", "many"] (spX T.a_TooLarge "many") :=
  xinit T.F_TooLarge_init sc_TooLarge_init T.o_TooLarge T.x_TooLarge_no (fun cdv A outer s H E => pss_one (ps_ost (pv 0) (pv 1)))
theorem Tx.x_TooLarge (T : Tx K mg) (P : Program) (w : World) (base : Heap) : XC K mg P w base "TooLarge" "many" := ⟨T.a_TooLarge, T.f_TooLarge_init, T.fd_TooLarge_init, T.m_TooLarge, T.o_TooLarge, T.in_TooLarge, T.ti_TooLarge, ok_TooLarge_init T, T.b_TooLarge_init⟩
theorem ok_Undefined_init (T : Tx K mg) : FnOk P w K mg base (L2.CX P w) 1 T.f_Undefined_init T.fd_Undefined_init ["self", "what"] (spX T.a_Undefined "what") :=
  xinit T.F_Undefined_init sc_Undefined_init T.o_Undefined T.x_Undefined_no (fun cdv A outer s H E => pss_one (ps_ost (pv 0) (pv 1)))
theorem Tx.x_Undefined (T : Tx K mg) (P : Program) (w : World) (base : Heap) : XC K mg P w base "Undefined" "what" := ⟨T.a_Undefined, T.f_Undefined_init, T.fd_Undefined_init, T.m_Undefined, T.o_Undefined, T.in_Undefined, T.ti_Undefined, ok_Undefined_init T, T.b_Undefined_init⟩
theorem ok_NothingToUndo_init (T : Tx K mg) : FnOk P w K mg base (L2.CX P w) 1 T.f_NothingToUndo_init T.fd_NothingToUndo_init ["self", "word"] (spX T.a_NothingToUndo "word") :=
  xinit T.F_NothingToUndo_init sc_NothingToUndo_init T.o_NothingToUndo T.x_NothingToUndo_no (fun cdv A outer s H E => pss_one (ps_ost (pv 0) (pv 1)))
theorem Tx.x_NothingToUndo (T : Tx K mg) (P : Program) (w : World) (base : Heap) : XC K mg P w base "NothingToUndo" "word" := ⟨T.a_NothingToUndo, T.f_NothingToUndo_init, T.fd_NothingToUndo_init, T.m_NothingToUndo, T.o_NothingToUndo, T.in_NothingToUndo, T.ti_NothingToUndo, ok_NothingToUndo_init T, T.b_NothingToUndo_init⟩
theorem Tx.xof_value (T : Tx K mg) : ∀ C ∈ (kni : List Str), ∀ Ca, mg C = some (.ref Ca) → XfC K Ca ∧ PySem.W.findIn K (.ref Ca) "value" = some none := by
  intro C hC Ca hm
  unfold kni at hC
  simp only [List.mem_cons, List.not_mem_nil, or_false] at hC
  rcases hC with rfl | rfl | rfl | rfl | rfl | rfl | rfl | rfl | rfl | rfl | rfl | rfl | rfl | rfl | rfl | rfl
  · rw [T.m_InvalidNumber] at hm
    cases hm
    exact ⟨T.x_InvalidNumber_xf, T.x_InvalidNumber_no⟩
  · rw [T.m_InvalidTable] at hm
    cases hm
    exact ⟨T.x_InvalidTable_xf, T.x_InvalidTable_no⟩
  · rw [T.m_InvalidRow] at hm
    cases hm
    exact ⟨T.x_InvalidRow_xf, T.x_InvalidRow_no⟩
  · rw [T.m_InvalidRules] at hm
    cases hm
    exact ⟨T.x_InvalidRules_xf, T.x_InvalidRules_no⟩
  · rw [T.m_InvalidMachines] at hm
    cases hm
    exact ⟨T.x_InvalidMachines_xf, T.x_InvalidMachines_no⟩
  · rw [T.m_InvalidWants] at hm
    cases hm
    exact ⟨T.x_InvalidWants_xf, T.x_InvalidWants_no⟩
  · rw [T.m_InvalidRota] at hm
    cases hm
    exact ⟨T.x_InvalidRota_xf, T.x_InvalidRota_no⟩
  · rw [T.m_InvalidDislikes] at hm
    cases hm
    exact ⟨T.x_InvalidDislikes_xf, T.x_InvalidDislikes_no⟩
  · rw [T.m_InvalidLoads] at hm
    cases hm
    exact ⟨T.x_InvalidLoads_xf, T.x_InvalidLoads_no⟩
  · rw [T.m_InvalidFixed] at hm
    cases hm
    exact ⟨T.x_InvalidFixed_xf, T.x_InvalidFixed_no⟩
  · rw [T.m_InvalidSkills] at hm
    cases hm
    exact ⟨T.x_InvalidSkills_xf, T.x_InvalidSkills_no⟩
  · rw [T.m_InvalidPosts] at hm
    cases hm
    exact ⟨T.x_InvalidPosts_xf, T.x_InvalidPosts_no⟩
  · rw [T.m_InvalidJobs] at hm
    cases hm
    exact ⟨T.x_InvalidJobs_xf, T.x_InvalidJobs_no⟩
  · rw [T.m_InvalidPart] at hm
    cases hm
    exact ⟨T.x_InvalidPart_xf, T.x_InvalidPart_no⟩
  · rw [T.m_InvalidQuestion] at hm
    cases hm
    exact ⟨T.x_InvalidQuestion_xf, T.x_InvalidQuestion_no⟩
  · rw [T.m_InvalidClaim] at hm
    cases hm
    exact ⟨T.x_InvalidClaim_xf, T.x_InvalidClaim_no⟩
theorem Tx.xof_many (T : Tx K mg) : ∀ C ∈ (["TooLarge"] : List Str), ∀ Ca, mg C = some (.ref Ca) → XfC K Ca ∧ PySem.W.findIn K (.ref Ca) "many" = some none := by
  intro C hC Ca hm
  rw [List.mem_singleton.mp hC] at hm
  · rw [T.m_TooLarge] at hm
    cases hm
    exact ⟨T.x_TooLarge_xf, T.x_TooLarge_no⟩
theorem Tx.xof_what (T : Tx K mg) : ∀ C ∈ (["Undefined"] : List Str), ∀ Ca, mg C = some (.ref Ca) → XfC K Ca ∧ PySem.W.findIn K (.ref Ca) "what" = some none := by
  intro C hC Ca hm
  rw [List.mem_singleton.mp hC] at hm
  · rw [T.m_Undefined] at hm
    cases hm
    exact ⟨T.x_Undefined_xf, T.x_Undefined_no⟩
theorem Tx.xof_word (T : Tx K mg) : ∀ C ∈ (["NothingToUndo"] : List Str), ∀ Ca, mg C = some (.ref Ca) → XfC K Ca ∧ PySem.W.findIn K (.ref Ca) "word" = some none := by
  intro C hC Ca hm
  rw [List.mem_singleton.mp hC] at hm
  · rw [T.m_NothingToUndo] at hm
    cases hm
    exact ⟨T.x_NothingToUndo_xf, T.x_NothingToUndo_no⟩
set_option maxHeartbeats 8000000 in
theorem ok_law_box (T : Tx K mg) : FnOk P w K mg base (L2.CX P w) 2 T.f_law_box T.fd_law_box ["script", "k"] (spOf ⟨K, mg, none⟩ 2 M_law_box) := by
  exact dfn (k := 1) T.F_law_box sc_law_box rfl (fun cdv A outer s H E hr tk pw =>
    (dss_cons (ds_set (i := 2) sc_law_box.nd rfl (Or.inl rfl) (de_bin op_addA od_add (de_bin op_mulA od_mulA de_int (de_var (pv 1))) de_int))
      (dss_cons (ds_if (dt_cmp op_lt od_lt (nomark _) (de_var (pv 1)) (de_cb call_len cd_len rfl T.n_len (by decide +kernel) (da_cons (de_var (pv 0)) da_nil)))
      (dss_one (ds_set (i := 2) sc_law_box.nd rfl (Or.inl rfl) (de_cb call_abs cd_abs rfl T.n_abs (by decide +kernel) (da_cons (de_ix ix_seq od_ix (de_var (pv 0)) (de_var (pv 1))) da_nil))))
      (dss_one (ds_if (dt_cmp op_gt od_gt (nomark _) (de_cb call_len cd_len rfl T.n_len (by decide +kernel) (da_cons (de_var (pv 0)) da_nil)) de_int)
      (dss_one (ds_set (i := 2) sc_law_box.nd rfl (Or.inl rfl) (de_bin op_addA od_add (de_bin op_mulA od_mulA (de_bin op_mod od_mod (de_ct call_int1 cd_int rfl T.n_int (by decide +kernel) (da_cons (de_cb call_abs cd_abs rfl T.n_abs (by decide +kernel) (da_cons (de_ix ix_seq od_ix (de_var (pv 0)) (de_bin op_mod od_mod (de_ct call_int1 cd_int rfl T.n_int (by decide +kernel) (da_cons (de_var (pv 1)) da_nil)) (de_cb call_len cd_len rfl T.n_len (by decide +kernel) (da_cons (de_var (pv 0)) da_nil)))) da_nil)) da_nil)) de_int) de_int) (de_bin op_mulA od_mulA de_int (de_var (pv 1))))))
      dss_nil)))
      (dss_cons (ds_set (i := 3) sc_law_box.nd rfl (Or.inl rfl) (de_ix ix_seq od_ix (de_lst (da_cons de_int (da_cons (de_var (pv 2)) da_nil))) (de_ct call_int1 cd_int rfl T.n_int (by decide +kernel) (da_cons (de_cmp op_ge od_ge (nomark _) (de_var (pv 2)) (de_bin op_pow od_pow de_int de_int)) da_nil))))
      (dss_one (ds_ret (de_lstC (da_cons (de_var (pv 3)) (da_cons (de_bin op_addA od_add (de_bin op_mod od_mod (de_ct call_int1 cd_int rfl T.n_int (by decide +kernel) (da_cons (de_bin op_addA od_add (de_bin op_mulA od_mulA (de_bin op_mod od_mod (de_ct call_int1 cd_int rfl T.n_int (by decide +kernel) (da_cons (de_var (pv 2)) da_nil)) de_int) de_int) (de_bin op_mulA od_mulA de_int (de_var (pv 1)))) da_nil)) de_int) de_int) da_nil)))))))))
set_option maxHeartbeats 8000000 in
theorem ok_law_take (T : Tx K mg) : FnOk P w K mg base (L2.CX P w) 2 T.f_law_take T.fd_law_take ["box", "many"] (spOf ⟨K, mg, none⟩ 2 M_law_take) := by
  exact dfn (k := 1) T.F_law_take sc_law_take rfl (fun cdv A outer s H E hr tk pw =>
    (dss_cons (ds_if (dt_cmp op_gt od_gt (nomark _) (de_ix ix_seq od_ix (de_var (pv 0)) de_int) de_int)
      (dss_cons (ds_set (i := 2) sc_law_take.nd rfl (Or.inl rfl) (de_bin op_mod od_mod (de_ct call_int1 cd_int rfl T.n_int (by decide +kernel) (da_cons (de_ix ix_seq od_ix (de_var (pv 0)) de_int) da_nil)) (de_var (pv 1))))
      (dss_cons (ds_setI (de_bin op_fdiv od_div (de_ix ix_seq od_ix (de_var (pv 0)) de_int) (de_var (pv 1))) (de_var (pv 0)) de_int)
      (dss_one (ds_ret (de_var (pv 2))))))
      dss_nil)
      (dss_cons (ds_setI (de_bin op_mod od_mod (de_ct call_int1 cd_int rfl T.n_int (by decide +kernel) (da_cons (de_bin op_addA od_add (de_bin op_mulA od_mulA (de_ix ix_seq od_ix (de_var (pv 0)) de_int) de_int) de_int) da_nil)) de_int) (de_var (pv 0)) de_int)
      (dss_one (ds_ret (de_bin op_mod od_mod (de_ct call_int1 cd_int rfl T.n_int (by decide +kernel) (da_cons (de_bin op_fdiv od_div (de_ix ix_seq od_ix (de_var (pv 0)) de_int) de_int) da_nil)) (de_var (pv 1))))))))
set_option maxHeartbeats 8000000 in
theorem ok_law_pick (T : Tx K mg) : FnOk P w K mg base (L2.CX P w) 3 T.f_law_pick T.fd_law_pick ["box", "some"] (spOf ⟨K, mg, none⟩ 2 M_law_pick) := by
  have G_law_take := ok_law_take (P := P) (w := w) (base := base) T
  exact dfn (k := 2) T.F_law_pick sc_law_pick rfl (fun cdv A outer s H E hr tk pw =>
    (dss_one (ds_ret (de_ix ix_seq od_ix (de_var (pv 1)) (de_call G_law_take (hr.mono (by decide)) rfl T.m_law_take T.F_law_take.kp T.b_law_take tk (da_cons (de_var (pv 0)) (da_cons (de_cb call_len cd_len rfl T.n_len (by decide +kernel) (da_cons (de_var (pv 1)) da_nil)) da_nil)))))))
set_option maxHeartbeats 8000000 in
theorem ok_law_ones (T : Tx K mg) : FnOk P w K mg base (L2.CX P w) 3 T.f_law_ones T.fd_law_ones ["v"] (spOf ⟨K, mg, none⟩ 1 M_law_ones) := by
  exact dfn (k := 2) T.F_law_ones sc_law_ones rfl (fun cdv A outer s H E hr tk pw =>
    (dss_cons (ds_set (i := 1) sc_law_ones.nd rfl (Or.inl rfl) (de_lst (da_cons (de_xo (T.x_InvalidNumber P w base) T.m_InvalidNumber T.m_InvalidNumber (hr.mono (by decide)) rfl (da_cons (de_var (pv 0)) da_nil)) (da_cons (de_xo (T.x_InvalidTable P w base) T.m_InvalidTable T.m_InvalidTable (hr.mono (by decide)) rfl (da_cons (de_var (pv 0)) da_nil)) (da_cons (de_xo (T.x_InvalidRow P w base) T.m_InvalidRow T.m_InvalidRow (hr.mono (by decide)) rfl (da_cons (de_var (pv 0)) da_nil)) (da_cons (de_xo (T.x_InvalidRules P w base) T.m_InvalidRules T.m_InvalidRules (hr.mono (by decide)) rfl (da_cons (de_var (pv 0)) da_nil)) (da_cons (de_xo (T.x_InvalidMachines P w base) T.m_InvalidMachines T.m_InvalidMachines (hr.mono (by decide)) rfl (da_cons (de_var (pv 0)) da_nil)) (da_cons (de_xo (T.x_InvalidWants P w base) T.m_InvalidWants T.m_InvalidWants (hr.mono (by decide)) rfl (da_cons (de_var (pv 0)) da_nil)) da_nil))))))))
      (dss_cons (ds_set (i := 1) sc_law_ones.nd rfl (Or.inl rfl) (de_bin op_addA od_add (de_var (pv 1)) (de_lst (da_cons (de_xo (T.x_InvalidRota P w base) T.m_InvalidRota T.m_InvalidRota (hr.mono (by decide)) rfl (da_cons (de_var (pv 0)) da_nil)) (da_cons (de_xo (T.x_InvalidDislikes P w base) T.m_InvalidDislikes T.m_InvalidDislikes (hr.mono (by decide)) rfl (da_cons (de_var (pv 0)) da_nil)) (da_cons (de_xo (T.x_InvalidLoads P w base) T.m_InvalidLoads T.m_InvalidLoads (hr.mono (by decide)) rfl (da_cons (de_var (pv 0)) da_nil)) (da_cons (de_xo (T.x_InvalidFixed P w base) T.m_InvalidFixed T.m_InvalidFixed (hr.mono (by decide)) rfl (da_cons (de_var (pv 0)) da_nil)) (da_cons (de_xo (T.x_InvalidSkills P w base) T.m_InvalidSkills T.m_InvalidSkills (hr.mono (by decide)) rfl (da_cons (de_var (pv 0)) da_nil)) da_nil))))))))
      (dss_one (ds_ret (de_bin op_addA od_add (de_var (pv 1)) (de_lst (da_cons (de_xo (T.x_InvalidPosts P w base) T.m_InvalidPosts T.m_InvalidPosts (hr.mono (by decide)) rfl (da_cons (de_var (pv 0)) da_nil)) (da_cons (de_xo (T.x_InvalidJobs P w base) T.m_InvalidJobs T.m_InvalidJobs (hr.mono (by decide)) rfl (da_cons (de_var (pv 0)) da_nil)) (da_cons (de_xo (T.x_InvalidPart P w base) T.m_InvalidPart T.m_InvalidPart (hr.mono (by decide)) rfl (da_cons (de_var (pv 0)) da_nil)) (da_cons (de_xo (T.x_InvalidQuestion P w base) T.m_InvalidQuestion T.m_InvalidQuestion (hr.mono (by decide)) rfl (da_cons (de_var (pv 0)) da_nil)) (da_cons (de_xo (T.x_InvalidClaim P w base) T.m_InvalidClaim T.m_InvalidClaim (hr.mono (by decide)) rfl (da_cons (de_var (pv 0)) da_nil)) da_nil))))))))))))
set_option maxHeartbeats 8000000 in
theorem ok_law_kinds (T : Tx K mg) : FnOk P w K mg base (L2.CX P w) 2 T.f_law_kinds T.fd_law_kinds ["e"] (spOf ⟨K, mg, none⟩ 1 M_law_kinds) := by
  exact dfn (k := 1) T.F_law_kinds sc_law_kinds rfl (fun cdv A outer s H E hr tk pw =>
    (dss_cons (ds_set (i := 1) sc_law_kinds.nd rfl (Or.inl rfl) (de_lst (da_cons (de_isX (tb := (tbF kns (fun C => decide (C = "InvalidNumber")))) rfl T.n_isinstance rfl T.m_InvalidNumber (by decide) rfl T.is_InvalidNumber (de_var (pv 0))) (da_cons (de_isX (tb := (tbF kns (fun C => decide (C = "InvalidTable")))) rfl T.n_isinstance rfl T.m_InvalidTable (by decide) rfl T.is_InvalidTable (de_var (pv 0))) (da_cons (de_isX (tb := (tbF kns (fun C => decide (C = "InvalidRow")))) rfl T.n_isinstance rfl T.m_InvalidRow (by decide) rfl T.is_InvalidRow (de_var (pv 0))) (da_cons (de_isX (tb := (tbF kns (fun C => decide (C = "InvalidRules")))) rfl T.n_isinstance rfl T.m_InvalidRules (by decide) rfl T.is_InvalidRules (de_var (pv 0))) da_nil))))))
      (dss_cons (ds_set (i := 1) sc_law_kinds.nd rfl (Or.inl rfl) (de_bin op_addA od_add (de_var (pv 1)) (de_lst (da_cons (de_isX (tb := (tbF kns (fun C => decide (C = "InvalidMachines")))) rfl T.n_isinstance rfl T.m_InvalidMachines (by decide) rfl T.is_InvalidMachines (de_var (pv 0))) (da_cons (de_isX (tb := (tbF kns (fun C => decide (C = "InvalidWants")))) rfl T.n_isinstance rfl T.m_InvalidWants (by decide) rfl T.is_InvalidWants (de_var (pv 0))) (da_cons (de_isX (tb := (tbF kns (fun C => decide (C = "InvalidRota")))) rfl T.n_isinstance rfl T.m_InvalidRota (by decide) rfl T.is_InvalidRota (de_var (pv 0))) da_nil))))))
      (dss_cons (ds_set (i := 1) sc_law_kinds.nd rfl (Or.inl rfl) (de_bin op_addA od_add (de_var (pv 1)) (de_lst (da_cons (de_isX (tb := (tbF kns (fun C => decide (C = "InvalidDislikes")))) rfl T.n_isinstance rfl T.m_InvalidDislikes (by decide) rfl T.is_InvalidDislikes (de_var (pv 0))) (da_cons (de_isX (tb := (tbF kns (fun C => decide (C = "InvalidLoads")))) rfl T.n_isinstance rfl T.m_InvalidLoads (by decide) rfl T.is_InvalidLoads (de_var (pv 0))) (da_cons (de_isX (tb := (tbF kns (fun C => decide (C = "InvalidFixed")))) rfl T.n_isinstance rfl T.m_InvalidFixed (by decide) rfl T.is_InvalidFixed (de_var (pv 0))) da_nil))))))
      (dss_cons (ds_set (i := 1) sc_law_kinds.nd rfl (Or.inl rfl) (de_bin op_addA od_add (de_var (pv 1)) (de_lst (da_cons (de_isX (tb := (tbF kns (fun C => decide (C = "InvalidSkills")))) rfl T.n_isinstance rfl T.m_InvalidSkills (by decide) rfl T.is_InvalidSkills (de_var (pv 0))) (da_cons (de_isX (tb := (tbF kns (fun C => decide (C = "InvalidPosts")))) rfl T.n_isinstance rfl T.m_InvalidPosts (by decide) rfl T.is_InvalidPosts (de_var (pv 0))) (da_cons (de_isX (tb := (tbF kns (fun C => decide (C = "InvalidJobs")))) rfl T.n_isinstance rfl T.m_InvalidJobs (by decide) rfl T.is_InvalidJobs (de_var (pv 0))) da_nil))))))
      (dss_cons (ds_set (i := 1) sc_law_kinds.nd rfl (Or.inl rfl) (de_bin op_addA od_add (de_var (pv 1)) (de_lst (da_cons (de_isX (tb := (tbF kns (fun C => decide (C = "InvalidPart")))) rfl T.n_isinstance rfl T.m_InvalidPart (by decide) rfl T.is_InvalidPart (de_var (pv 0))) (da_cons (de_isX (tb := (tbF kns (fun C => decide (C = "InvalidQuestion")))) rfl T.n_isinstance rfl T.m_InvalidQuestion (by decide) rfl T.is_InvalidQuestion (de_var (pv 0))) (da_cons (de_isX (tb := (tbF kns (fun C => decide (C = "InvalidClaim")))) rfl T.n_isinstance rfl T.m_InvalidClaim (by decide) rfl T.is_InvalidClaim (de_var (pv 0))) da_nil))))))
      (dss_cons (ds_set (i := 1) sc_law_kinds.nd rfl (Or.inl rfl) (de_bin op_addA od_add (de_var (pv 1)) (de_lst (da_cons (de_isX (tb := (tbF kns (fun C => decide (C = "TooLarge")))) rfl T.n_isinstance rfl T.m_TooLarge (by decide) rfl T.is_TooLarge (de_var (pv 0))) (da_cons (de_isX (tb := (tbF kns (fun C => decide (C = "Undefined")))) rfl T.n_isinstance rfl T.m_Undefined (by decide) rfl T.is_Undefined (de_var (pv 0))) (da_cons (de_isX (tb := (tbF kns (fun C => decide (C = "NothingToUndo")))) rfl T.n_isinstance rfl T.m_NothingToUndo (by decide) rfl T.is_NothingToUndo (de_var (pv 0))) da_nil))))))
      (dss_one (ds_ret (de_bin op_addA od_add (de_var (pv 1)) (de_lst (da_cons (de_isX (tb := (tbF kns (fun _ => true))) rfl T.n_isinstance rfl T.m_DutyError (by decide) rfl T.is_DutyError (de_var (pv 0))) (da_cons (de_isXT (tb := (tbF kns (fun _ => true))) (T := "ValueError") rfl T.n_isinstance rfl T.n_ValueError (by decide +kernel) (by decide) (by decide) rfl T.is_ValueError (de_var (pv 0))) da_nil)))))))))))))
set_option maxHeartbeats 8000000 in
theorem ok_law (T : Tx K mg) : FnOk P w K mg base (L2.CX P w) 4 T.f_law T.fd_law ["script"] (spOf ⟨K, mg, none⟩ 1 M_law) := by
  have G_law_box := ok_law_box (P := P) (w := w) (base := base) T
  have G_law_take := ok_law_take (P := P) (w := w) (base := base) T
  have G_law_pick := ok_law_pick (P := P) (w := w) (base := base) T
  have G_law_ones := ok_law_ones (P := P) (w := w) (base := base) T
  have G_law_kinds := ok_law_kinds (P := P) (w := w) (base := base) T
  exact dfn (k := 3) T.F_law sc_law rfl (fun cdv A outer s H E hr tk pw =>
    (dss_cons (ds_set (i := 1) sc_law.nd rfl (Or.inl rfl) (de_call G_law_box (hr.mono (by decide)) rfl T.m_law_box T.F_law_box.kp T.b_law_box tk (da_cons (de_var (pv 0)) (da_cons de_int da_nil))))
      (dss_cons (ds_set (i := 2) sc_law.nd rfl (Or.inl rfl) (de_lst (da_cons (de_bin op_sub od_sub (de_call G_law_take (hr.mono (by decide)) rfl T.m_law_take T.F_law_take.kp T.b_law_take tk (da_cons (de_var (pv 1)) (da_cons (de_bin op_pow od_pow de_int de_int) da_nil))) de_int) (da_cons (de_bin op_addA od_add de_str (de_ct call_str_int cd_str rfl T.n_str (by decide +kernel) (da_cons (de_call G_law_take (hr.mono (by decide)) rfl T.m_law_take T.F_law_take.kp T.b_law_take tk (da_cons (de_var (pv 1)) (da_cons de_int da_nil))) da_nil))) (da_cons (de_tup (da_cons de_int (da_cons (de_call G_law_take (hr.mono (by decide)) rfl T.m_law_take T.F_law_take.kp T.b_law_take tk (da_cons (de_var (pv 1)) (da_cons de_int da_nil))) da_nil))) da_nil)))))
      (dss_cons (ds_set (i := 2) sc_law.nd rfl (Or.inl rfl) (de_bin op_addA od_add (de_var (pv 2)) (de_lst (da_cons (de_lst (da_cons (de_call G_law_take (hr.mono (by decide)) rfl T.m_law_take T.F_law_take.kp T.b_law_take tk (da_cons (de_var (pv 1)) (da_cons de_int da_nil))) da_nil)) (da_cons de_non (da_cons de_bl (da_cons (de_tup da_nil) da_nil)))))))
      (dss_cons (ds_set (i := 3) sc_law.nd rfl (Or.inl rfl) (de_call G_law_pick (hr.mono (by decide)) rfl T.m_law_pick T.F_law_pick.kp T.b_law_pick tk (da_cons (de_var (pv 1)) (da_cons (de_var (pv 2)) da_nil))))
      (dss_cons (ds_set (i := 4) sc_law.nd rfl (Or.inr rfl) (de_call G_law_ones (hr.mono (by decide)) rfl T.m_law_ones T.F_law_ones.kp T.b_law_ones tk (da_cons (de_var (pv 3)) da_nil)))
      (dss_cons (ds_for pw rfl (di_lst (de_var (pv 4)) rfl) (pg_name (i := 5) sc_law.nd rfl (Or.inl rfl)) gd_nm
      (dss_one (ds_if (dt_cmp (op_neD hr.units) od_ne (nomark _) (de_xof (kn := kni) rfl T.xof_value (de_var (pv 5))) (de_var (pv 3)))
      (dss_one (ds_ret de_bl))
      dss_nil)))
      (dss_cons (ds_par3 (i := 6) (j := 7) (l := 8) rfl sc_law.nd rfl rfl rfl (by decide) (by decide) (by decide) rfl rfl rfl (da_cons (de_xo (T.x_TooLarge P w base) T.m_TooLarge T.m_TooLarge (hr.mono (by decide)) rfl (da_cons (de_var (pv 3)) da_nil)) (da_cons (de_xo (T.x_Undefined P w base) T.m_Undefined T.m_Undefined (hr.mono (by decide)) rfl (da_cons (de_var (pv 3)) da_nil)) (da_cons (de_xo (T.x_NothingToUndo P w base) T.m_NothingToUndo T.m_NothingToUndo (hr.mono (by decide)) rfl (da_cons (de_var (pv 3)) da_nil)) da_nil))))
      (dss_cons (ds_if (PW.pt (dw_or (dt_cmp (op_neD hr.units) od_ne (nomark _) (de_xof (kn := ["TooLarge"]) rfl T.xof_many (de_var (pv 6))) (de_var (pv 3))) (dw_or (dt_cmp (op_neD hr.units) od_ne (nomark _) (de_xof (kn := ["Undefined"]) rfl T.xof_what (de_var (pv 7))) (de_var (pv 3))) (dw_or1 (dt_cmp (op_neD hr.units) od_ne (nomark _) (de_xof (kn := ["NothingToUndo"]) rfl T.xof_word (de_var (pv 8))) (de_var (pv 3)))))))
      (dss_one (ds_ret de_bl))
      dss_nil)
      (dss_cons (ds_set (i := 4) sc_law.nd rfl (Or.inr rfl) (de_bin op_addA od_add (de_var (pv 4)) (de_lst (da_cons (de_var (pv 6)) (da_cons (de_var (pv 7)) (da_cons (de_var (pv 8)) da_nil))))))
      (dss_cons (ds_for pw rfl (di_rng1 rfl T.n_range (da_cons (de_cb call_len cd_len rfl T.n_len (by decide +kernel) (da_cons (de_var (pv 4)) da_nil)) da_nil)) (pg_name (i := 9) sc_law.nd rfl (Or.inr rfl)) gd_nm
      (dss_one (ds_if (dt_cmp (op_neD hr.units) od_ne (nomark _) (de_call G_law_kinds (hr.mono (by decide)) rfl T.m_law_kinds T.F_law_kinds.kp T.b_law_kinds tk (da_cons (de_ix ix_seq od_ix (de_var (pv 4)) (de_var (pv 9))) da_nil)) (de_lc (own := [("j", 10)]) rfl sc_law.nd (di_rng1 rfl T.n_range (da_cons (de_bin op_addA od_add (de_cb call_len cd_len rfl T.n_len (by decide +kernel) (da_cons (de_var (pv 4)) da_nil)) de_int) da_nil)) (blkOk_by (N := n_law) (sc := defScope s_law) (own := [("j", 10)]) (by decide +kernel)) (fun _ _ _ _ _ => (pg_name (i := 10) sc_law.nd rfl (Or.inl rfl))) (gd_own (by decide)) (fun _ _ _ _ _ => dts_nil) (fun _ _ _ _ _ => (de_or (de_cmp (op_eqD hr.units) od_eq (nomark _) (de_var (pv 10)) (de_var (pv 9))) (de_one (de_cmp op_ge od_ge (nomark _) (de_var (pv 10)) (de_cb call_len cd_len rfl T.n_len (by decide +kernel) (da_cons (de_var (pv 4)) da_nil))))))))
      (dss_one (ds_ret de_bl))
      dss_nil)))
      (dss_one (ds_ret de_bl)))))))))))))
end
end K01
namespace K01
open PySem PySem.Spec PyProof.Rows L2 Dw
theorem walk {l : PySem.W.OpenLaw} {q : Program} {loose : List Str} {XP : (Str → Option Value) → Heap → Prop} {YP : World → Heap → Prop} {d : DefRec} {K : Params → PySem.W.Frag} (hn : l.most = some 63) (hdf : d.params.defaults = [])
    (hY : ∀ (w : World) (h : Heap), YP w h → (K w.params).In h)
    (F : ∀ (w : World) (mg : Str → Option Value) (fa : Addr) (h : Heap), (K w.params).In h → h.Ns mainGlobals mg → mg d.name = some (.ref fa) →
      ∃ fd : FuncData, (∀ (s : Shared) (u : Value), BindsTo s fd ⟨[u], []⟩ [("script", u)]) ∧ ∀ base : Heap, (K w.params).In base → base.Ns mainGlobals mg → FnOk l.prog w (K w.params) mg base (L2.CX l.prog w) 4 fa fd ["script"] (spOf ⟨K w.params, mg, none⟩ 1 M_law)) :
    PySem.W.WalkO q loose XP YP l.row.toRowW d [] (fun f vs => PySem.call f vs) :=
  walk_law hn hdf hY F M_law_true ⟨rfl, by decide, by decide⟩
end K01
namespace K01
open PySem PySem.Spec PyProof.Rows L2 Dw
theorem all_mk {P : Program} {w : World} {K : PySem.W.Frag} {h : Heap} {mg : Str → Option Value} {fa : Addr} (X : K.In h) (G : h.Ns mainGlobals mg) (hfa : mg "law" = some (.ref fa))
    {N_InvalidClaim : Addr} {N_InvalidDislikes : Addr} {N_InvalidFixed : Addr} {N_InvalidJobs : Addr} {N_InvalidLoads : Addr} {N_InvalidMachines : Addr} {N_InvalidNumber : Addr} {N_InvalidPart : Addr} {N_InvalidPosts : Addr} {N_InvalidQuestion : Addr} {N_InvalidRota : Addr} {N_InvalidRow : Addr} {N_InvalidRules : Addr} {N_InvalidSkills : Addr} {N_InvalidTable : Addr} {N_InvalidWants : Addr} {N_NothingToUndo : Addr} {N_TooLarge : Addr} {N_Undefined : Addr} {a_DutyError : Addr} {a_InvalidClaim : Addr} {a_InvalidDislikes : Addr} {a_InvalidFixed : Addr} {a_InvalidJobs : Addr} {a_InvalidLoads : Addr} {a_InvalidMachines : Addr} {a_InvalidNumber : Addr} {a_InvalidPart : Addr} {a_InvalidPosts : Addr} {a_InvalidQuestion : Addr} {a_InvalidRota : Addr} {a_InvalidRow : Addr} {a_InvalidRules : Addr} {a_InvalidSkills : Addr} {a_InvalidTable : Addr} {a_InvalidWants : Addr} {a_NothingToUndo : Addr} {a_TooLarge : Addr} {a_Undefined : Addr} {ab_InvalidClaim : Bool} {ab_InvalidDislikes : Bool} {ab_InvalidFixed : Bool} {ab_InvalidJobs : Bool} {ab_InvalidLoads : Bool} {ab_InvalidMachines : Bool} {ab_InvalidNumber : Bool} {ab_InvalidPart : Bool} {ab_InvalidPosts : Bool} {ab_InvalidQuestion : Bool} {ab_InvalidRota : Bool} {ab_InvalidRow : Bool} {ab_InvalidRules : Bool} {ab_InvalidSkills : Bool} {ab_InvalidTable : Bool} {ab_InvalidWants : Bool} {ab_NothingToUndo : Bool} {ab_TooLarge : Bool} {ab_Undefined : Bool} {an_InvalidClaim_init : Option Addr} {an_InvalidDislikes_init : Option Addr} {an_InvalidFixed_init : Option Addr} {an_InvalidJobs_init : Option Addr} {an_InvalidLoads_init : Option Addr} {an_InvalidMachines_init : Option Addr} {an_InvalidNumber_init : Option Addr} {an_InvalidPart_init : Option Addr} {an_InvalidPosts_init : Option Addr} {an_InvalidQuestion_init : Option Addr} {an_InvalidRota_init : Option Addr} {an_InvalidRow_init : Option Addr} {an_InvalidRules_init : Option Addr} {an_InvalidSkills_init : Option Addr} {an_InvalidTable_init : Option Addr} {an_InvalidWants_init : Option Addr} {an_NothingToUndo_init : Option Addr} {an_TooLarge_init : Option Addr} {an_Undefined_init : Option Addr} {an_law : Option Addr} {an_law_box : Option Addr} {an_law_kinds : Option Addr} {an_law_ones : Option Addr} {an_law_pick : Option Addr} {an_law_take : Option Addr} {bm_InvalidClaim : List Value} {bm_InvalidDislikes : List Value} {bm_InvalidFixed : List Value} {bm_InvalidJobs : List Value} {bm_InvalidLoads : List Value} {bm_InvalidMachines : List Value} {bm_InvalidNumber : List Value} {bm_InvalidPart : List Value} {bm_InvalidPosts : List Value} {bm_InvalidQuestion : List Value} {bm_InvalidRota : List Value} {bm_InvalidRow : List Value} {bm_InvalidRules : List Value} {bm_InvalidSkills : List Value} {bm_InvalidTable : List Value} {bm_InvalidWants : List Value} {bm_NothingToUndo : List Value} {bm_TooLarge : List Value} {bm_Undefined : List Value} {bs_InvalidClaim : List Value} {bs_InvalidDislikes : List Value} {bs_InvalidFixed : List Value} {bs_InvalidJobs : List Value} {bs_InvalidLoads : List Value} {bs_InvalidMachines : List Value} {bs_InvalidNumber : List Value} {bs_InvalidPart : List Value} {bs_InvalidPosts : List Value} {bs_InvalidQuestion : List Value} {bs_InvalidRota : List Value} {bs_InvalidRow : List Value} {bs_InvalidRules : List Value} {bs_InvalidSkills : List Value} {bs_InvalidTable : List Value} {bs_InvalidWants : List Value} {bs_NothingToUndo : List Value} {bs_TooLarge : List Value} {bs_Undefined : List Value} {cd_InvalidClaim_init : Value} {cd_InvalidDislikes_init : Value} {cd_InvalidFixed_init : Value} {cd_InvalidJobs_init : Value} {cd_InvalidLoads_init : Value} {cd_InvalidMachines_init : Value} {cd_InvalidNumber_init : Value} {cd_InvalidPart_init : Value} {cd_InvalidPosts_init : Value} {cd_InvalidQuestion_init : Value} {cd_InvalidRota_init : Value} {cd_InvalidRow_init : Value} {cd_InvalidRules_init : Value} {cd_InvalidSkills_init : Value} {cd_InvalidTable_init : Value} {cd_InvalidWants_init : Value} {cd_NothingToUndo_init : Value} {cd_TooLarge_init : Value} {cd_Undefined_init : Value} {cd_law : Value} {cd_law_box : Value} {cd_law_kinds : Value} {cd_law_ones : Value} {cd_law_pick : Value} {cd_law_take : Value} {col_InvalidClaim : Option Bool} {col_InvalidDislikes : Option Bool} {col_InvalidFixed : Option Bool} {col_InvalidJobs : Option Bool} {col_InvalidLoads : Option Bool} {col_InvalidMachines : Option Bool} {col_InvalidNumber : Option Bool} {col_InvalidPart : Option Bool} {col_InvalidPosts : Option Bool} {col_InvalidQuestion : Option Bool} {col_InvalidRota : Option Bool} {col_InvalidRow : Option Bool} {col_InvalidRules : Option Bool} {col_InvalidSkills : Option Bool} {col_InvalidTable : Option Bool} {col_InvalidWants : Option Bool} {col_NothingToUndo : Option Bool} {col_TooLarge : Option Bool} {col_Undefined : Option Bool} {ct_InvalidClaim_init : Value} {ct_InvalidDislikes_init : Value} {ct_InvalidFixed_init : Value} {ct_InvalidJobs_init : Value} {ct_InvalidLoads_init : Value} {ct_InvalidMachines_init : Value} {ct_InvalidNumber_init : Value} {ct_InvalidPart_init : Value} {ct_InvalidPosts_init : Value} {ct_InvalidQuestion_init : Value} {ct_InvalidRota_init : Value} {ct_InvalidRow_init : Value} {ct_InvalidRules_init : Value} {ct_InvalidSkills_init : Value} {ct_InvalidTable_init : Value} {ct_InvalidWants_init : Value} {ct_NothingToUndo_init : Value} {ct_TooLarge_init : Value} {ct_Undefined_init : Value} {ct_law : Value} {ct_law_box : Value} {ct_law_kinds : Value} {ct_law_ones : Value} {ct_law_pick : Value} {ct_law_take : Value} {dc_InvalidClaim_init : Value} {dc_InvalidDislikes_init : Value} {dc_InvalidFixed_init : Value} {dc_InvalidJobs_init : Value} {dc_InvalidLoads_init : Value} {dc_InvalidMachines_init : Value} {dc_InvalidNumber_init : Value} {dc_InvalidPart_init : Value} {dc_InvalidPosts_init : Value} {dc_InvalidQuestion_init : Value} {dc_InvalidRota_init : Value} {dc_InvalidRow_init : Value} {dc_InvalidRules_init : Value} {dc_InvalidSkills_init : Value} {dc_InvalidTable_init : Value} {dc_InvalidWants_init : Value} {dc_NothingToUndo_init : Value} {dc_TooLarge_init : Value} {dc_Undefined_init : Value} {dc_law : Value} {dc_law_box : Value} {dc_law_kinds : Value} {dc_law_ones : Value} {dc_law_pick : Value} {dc_law_take : Value} {dd_InvalidClaim : Option Addr} {dd_InvalidDislikes : Option Addr} {dd_InvalidFixed : Option Addr} {dd_InvalidJobs : Option Addr} {dd_InvalidLoads : Option Addr} {dd_InvalidMachines : Option Addr} {dd_InvalidNumber : Option Addr} {dd_InvalidPart : Option Addr} {dd_InvalidPosts : Option Addr} {dd_InvalidQuestion : Option Addr} {dd_InvalidRota : Option Addr} {dd_InvalidRow : Option Addr} {dd_InvalidRules : Option Addr} {dd_InvalidSkills : Option Addr} {dd_InvalidTable : Option Addr} {dd_InvalidWants : Option Addr} {dd_NothingToUndo : Option Addr} {dd_TooLarge : Option Addr} {dd_Undefined : Option Addr} {f_InvalidClaim_init : Addr} {f_InvalidDislikes_init : Addr} {f_InvalidFixed_init : Addr} {f_InvalidJobs_init : Addr} {f_InvalidLoads_init : Addr} {f_InvalidMachines_init : Addr} {f_InvalidNumber_init : Addr} {f_InvalidPart_init : Addr} {f_InvalidPosts_init : Addr} {f_InvalidQuestion_init : Addr} {f_InvalidRota_init : Addr} {f_InvalidRow_init : Addr} {f_InvalidRules_init : Addr} {f_InvalidSkills_init : Addr} {f_InvalidTable_init : Addr} {f_InvalidWants_init : Addr} {f_NothingToUndo_init : Addr} {f_TooLarge_init : Addr} {f_Undefined_init : Addr} {f_law : Addr} {f_law_box : Addr} {f_law_kinds : Addr} {f_law_ones : Addr} {f_law_pick : Addr} {f_law_take : Addr} {kV_InvalidClaim_init : Value} {kV_InvalidDislikes_init : Value} {kV_InvalidFixed_init : Value} {kV_InvalidJobs_init : Value} {kV_InvalidLoads_init : Value} {kV_InvalidMachines_init : Value} {kV_InvalidNumber_init : Value} {kV_InvalidPart_init : Value} {kV_InvalidPosts_init : Value} {kV_InvalidQuestion_init : Value} {kV_InvalidRota_init : Value} {kV_InvalidRow_init : Value} {kV_InvalidRules_init : Value} {kV_InvalidSkills_init : Value} {kV_InvalidTable_init : Value} {kV_InvalidWants_init : Value} {kV_NothingToUndo_init : Value} {kV_TooLarge_init : Value} {kV_Undefined_init : Value} {kV_law : Value} {kV_law_box : Value} {kV_law_kinds : Value} {kV_law_ones : Value} {kV_law_pick : Value} {kV_law_take : Value} {m0_InvalidClaim : Option Value} {m0_InvalidDislikes : Option Value} {m0_InvalidFixed : Option Value} {m0_InvalidJobs : Option Value} {m0_InvalidLoads : Option Value} {m0_InvalidMachines : Option Value} {m0_InvalidNumber : Option Value} {m0_InvalidPart : Option Value} {m0_InvalidPosts : Option Value} {m0_InvalidQuestion : Option Value} {m0_InvalidRota : Option Value} {m0_InvalidRow : Option Value} {m0_InvalidRules : Option Value} {m0_InvalidSkills : Option Value} {m0_InvalidTable : Option Value} {m0_InvalidWants : Option Value} {m0_NothingToUndo : Option Value} {m0_TooLarge : Option Value} {m0_Undefined : Option Value} {m1_InvalidClaim : Option Value} {m1_InvalidDislikes : Option Value} {m1_InvalidFixed : Option Value} {m1_InvalidJobs : Option Value} {m1_InvalidLoads : Option Value} {m1_InvalidMachines : Option Value} {m1_InvalidNumber : Option Value} {m1_InvalidPart : Option Value} {m1_InvalidPosts : Option Value} {m1_InvalidQuestion : Option Value} {m1_InvalidRota : Option Value} {m1_InvalidRow : Option Value} {m1_InvalidRules : Option Value} {m1_InvalidSkills : Option Value} {m1_InvalidTable : Option Value} {m1_InvalidWants : Option Value} {m1_NothingToUndo : Option Value} {m1_TooLarge : Option Value} {m1_Undefined : Option Value} {m2_InvalidClaim : Option Value} {m2_InvalidDislikes : Option Value} {m2_InvalidFixed : Option Value} {m2_InvalidJobs : Option Value} {m2_InvalidLoads : Option Value} {m2_InvalidMachines : Option Value} {m2_InvalidNumber : Option Value} {m2_InvalidPart : Option Value} {m2_InvalidPosts : Option Value} {m2_InvalidQuestion : Option Value} {m2_InvalidRota : Option Value} {m2_InvalidRow : Option Value} {m2_InvalidRules : Option Value} {m2_InvalidSkills : Option Value} {m2_InvalidTable : Option Value} {m2_InvalidWants : Option Value} {m2_NothingToUndo : Option Value} {m2_TooLarge : Option Value} {m2_Undefined : Option Value} {m3_InvalidClaim : Option Value} {m3_InvalidDislikes : Option Value} {m3_InvalidFixed : Option Value} {m3_InvalidJobs : Option Value} {m3_InvalidLoads : Option Value} {m3_InvalidMachines : Option Value} {m3_InvalidNumber : Option Value} {m3_InvalidPart : Option Value} {m3_InvalidPosts : Option Value} {m3_InvalidQuestion : Option Value} {m3_InvalidRota : Option Value} {m3_InvalidRow : Option Value} {m3_InvalidRules : Option Value} {m3_InvalidSkills : Option Value} {m3_InvalidTable : Option Value} {m3_InvalidWants : Option Value} {m3_NothingToUndo : Option Value} {m3_TooLarge : Option Value} {m3_Undefined : Option Value} {m5_InvalidClaim : Option Value} {m5_InvalidDislikes : Option Value} {m5_InvalidFixed : Option Value} {m5_InvalidJobs : Option Value} {m5_InvalidLoads : Option Value} {m5_InvalidMachines : Option Value} {m5_InvalidNumber : Option Value} {m5_InvalidPart : Option Value} {m5_InvalidPosts : Option Value} {m5_InvalidQuestion : Option Value} {m5_InvalidRota : Option Value} {m5_InvalidRow : Option Value} {m5_InvalidRules : Option Value} {m5_InvalidSkills : Option Value} {m5_InvalidTable : Option Value} {m5_InvalidWants : Option Value} {m5_NothingToUndo : Option Value} {m5_TooLarge : Option Value} {m5_Undefined : Option Value} {nm_InvalidClaim : Str} {nm_InvalidDislikes : Str} {nm_InvalidFixed : Str} {nm_InvalidJobs : Str} {nm_InvalidLoads : Str} {nm_InvalidMachines : Str} {nm_InvalidNumber : Str} {nm_InvalidPart : Str} {nm_InvalidPosts : Str} {nm_InvalidQuestion : Str} {nm_InvalidRota : Str} {nm_InvalidRow : Str} {nm_InvalidRules : Str} {nm_InvalidSkills : Str} {nm_InvalidTable : Str} {nm_InvalidWants : Str} {nm_NothingToUndo : Str} {nm_TooLarge : Str} {nm_Undefined : Str} {oc_InvalidClaim_init : Value} {oc_InvalidDislikes_init : Value} {oc_InvalidFixed_init : Value} {oc_InvalidJobs_init : Value} {oc_InvalidLoads_init : Value} {oc_InvalidMachines_init : Value} {oc_InvalidNumber_init : Value} {oc_InvalidPart_init : Value} {oc_InvalidPosts_init : Value} {oc_InvalidQuestion_init : Value} {oc_InvalidRota_init : Value} {oc_InvalidRow_init : Value} {oc_InvalidRules_init : Value} {oc_InvalidSkills_init : Value} {oc_InvalidTable_init : Value} {oc_InvalidWants_init : Value} {oc_NothingToUndo_init : Value} {oc_TooLarge_init : Value} {oc_Undefined_init : Value} {oc_law : Value} {oc_law_box : Value} {oc_law_kinds : Value} {oc_law_ones : Value} {oc_law_pick : Value} {oc_law_take : Value} {od_InvalidClaim_init : Option Addr} {od_InvalidDislikes_init : Option Addr} {od_InvalidFixed_init : Option Addr} {od_InvalidJobs_init : Option Addr} {od_InvalidLoads_init : Option Addr} {od_InvalidMachines_init : Option Addr} {od_InvalidNumber_init : Option Addr} {od_InvalidPart_init : Option Addr} {od_InvalidPosts_init : Option Addr} {od_InvalidQuestion_init : Option Addr} {od_InvalidRota_init : Option Addr} {od_InvalidRow_init : Option Addr} {od_InvalidRules_init : Option Addr} {od_InvalidSkills_init : Option Addr} {od_InvalidTable_init : Option Addr} {od_InvalidWants_init : Option Addr} {od_NothingToUndo_init : Option Addr} {od_TooLarge_init : Option Addr} {od_Undefined_init : Option Addr} {od_law : Option Addr} {od_law_box : Option Addr} {od_law_kinds : Option Addr} {od_law_ones : Option Addr} {od_law_pick : Option Addr} {od_law_take : Option Addr} {pm_InvalidClaim_init : Value} {pm_InvalidDislikes_init : Value} {pm_InvalidFixed_init : Value} {pm_InvalidJobs_init : Value} {pm_InvalidLoads_init : Value} {pm_InvalidMachines_init : Value} {pm_InvalidNumber_init : Value} {pm_InvalidPart_init : Value} {pm_InvalidPosts_init : Value} {pm_InvalidQuestion_init : Value} {pm_InvalidRota_init : Value} {pm_InvalidRow_init : Value} {pm_InvalidRules_init : Value} {pm_InvalidSkills_init : Value} {pm_InvalidTable_init : Value} {pm_InvalidWants_init : Value} {pm_NothingToUndo_init : Value} {pm_TooLarge_init : Value} {pm_Undefined_init : Value} {pm_law : Value} {pm_law_box : Value} {pm_law_kinds : Value} {pm_law_ones : Value} {pm_law_pick : Value} {pm_law_take : Value} {q_InvalidClaim : Str} {q_InvalidDislikes : Str} {q_InvalidFixed : Str} {q_InvalidJobs : Str} {q_InvalidLoads : Str} {q_InvalidMachines : Str} {q_InvalidNumber : Str} {q_InvalidPart : Str} {q_InvalidPosts : Str} {q_InvalidQuestion : Str} {q_InvalidRota : Str} {q_InvalidRow : Str} {q_InvalidRules : Str} {q_InvalidSkills : Str} {q_InvalidTable : Str} {q_InvalidWants : Str} {q_NothingToUndo : Str} {q_TooLarge : Str} {q_Undefined : Str} {sl_InvalidClaim_init : Array (Option Value)} {sl_InvalidDislikes_init : Array (Option Value)} {sl_InvalidFixed_init : Array (Option Value)} {sl_InvalidJobs_init : Array (Option Value)} {sl_InvalidLoads_init : Array (Option Value)} {sl_InvalidMachines_init : Array (Option Value)} {sl_InvalidNumber_init : Array (Option Value)} {sl_InvalidPart_init : Array (Option Value)} {sl_InvalidPosts_init : Array (Option Value)} {sl_InvalidQuestion_init : Array (Option Value)} {sl_InvalidRota_init : Array (Option Value)} {sl_InvalidRow_init : Array (Option Value)} {sl_InvalidRules_init : Array (Option Value)} {sl_InvalidSkills_init : Array (Option Value)} {sl_InvalidTable_init : Array (Option Value)} {sl_InvalidWants_init : Array (Option Value)} {sl_NothingToUndo_init : Array (Option Value)} {sl_TooLarge_init : Array (Option Value)} {sl_Undefined_init : Array (Option Value)} {sl_law : Array (Option Value)} {sl_law_box : Array (Option Value)} {sl_law_kinds : Array (Option Value)} {sl_law_ones : Array (Option Value)} {sl_law_pick : Array (Option Value)} {sl_law_take : Array (Option Value)} {sn_InvalidClaim : List Str} {sn_InvalidDislikes : List Str} {sn_InvalidFixed : List Str} {sn_InvalidJobs : List Str} {sn_InvalidLoads : List Str} {sn_InvalidMachines : List Str} {sn_InvalidNumber : List Str} {sn_InvalidPart : List Str} {sn_InvalidPosts : List Str} {sn_InvalidQuestion : List Str} {sn_InvalidRota : List Str} {sn_InvalidRow : List Str} {sn_InvalidRules : List Str} {sn_InvalidSkills : List Str} {sn_InvalidTable : List Str} {sn_InvalidWants : List Str} {sn_NothingToUndo : List Str} {sn_TooLarge : List Str} {sn_Undefined : List Str} {sub_InvalidClaim : List Value} {sub_InvalidDislikes : List Value} {sub_InvalidFixed : List Value} {sub_InvalidJobs : List Value} {sub_InvalidLoads : List Value} {sub_InvalidMachines : List Value} {sub_InvalidNumber : List Value} {sub_InvalidPart : List Value} {sub_InvalidPosts : List Value} {sub_InvalidQuestion : List Value} {sub_InvalidRota : List Value} {sub_InvalidRow : List Value} {sub_InvalidRules : List Value} {sub_InvalidSkills : List Value} {sub_InvalidTable : List Value} {sub_InvalidWants : List Value} {sub_NothingToUndo : List Value} {sub_TooLarge : List Value} {sub_Undefined : List Value}
    (a_law_box_g : PySem.W.nsIn K mainGlobals "_law_box" = some (some (.ref f_law_box)))
    (l_law_box : K.lookup f_law_box = some ⟨oc_law_box, od_law_box, .func (PySem.W.fnOf "_law_box" "_law_box" (defArgs s_law_box) (defBody s_law_box) (defScope s_law_box) .none kV_law_box dc_law_box pm_law_box an_law_box cd_law_box ct_law_box), sl_law_box⟩)
    (c_law_box : PySem.W.codeIn K cd_law_box "_law_box" = true)
    (k_law_box : PySem.W.keepIn K (.ref f_law_box) = true)
    (a_law_take_g : PySem.W.nsIn K mainGlobals "_law_take" = some (some (.ref f_law_take)))
    (l_law_take : K.lookup f_law_take = some ⟨oc_law_take, od_law_take, .func (PySem.W.fnOf "_law_take" "_law_take" (defArgs s_law_take) (defBody s_law_take) (defScope s_law_take) .none kV_law_take dc_law_take pm_law_take an_law_take cd_law_take ct_law_take), sl_law_take⟩)
    (c_law_take : PySem.W.codeIn K cd_law_take "_law_take" = true)
    (k_law_take : PySem.W.keepIn K (.ref f_law_take) = true)
    (a_law_pick_g : PySem.W.nsIn K mainGlobals "_law_pick" = some (some (.ref f_law_pick)))
    (l_law_pick : K.lookup f_law_pick = some ⟨oc_law_pick, od_law_pick, .func (PySem.W.fnOf "_law_pick" "_law_pick" (defArgs s_law_pick) (defBody s_law_pick) (defScope s_law_pick) .none kV_law_pick dc_law_pick pm_law_pick an_law_pick cd_law_pick ct_law_pick), sl_law_pick⟩)
    (c_law_pick : PySem.W.codeIn K cd_law_pick "_law_pick" = true)
    (k_law_pick : PySem.W.keepIn K (.ref f_law_pick) = true)
    (a_law_ones_g : PySem.W.nsIn K mainGlobals "_law_ones" = some (some (.ref f_law_ones)))
    (l_law_ones : K.lookup f_law_ones = some ⟨oc_law_ones, od_law_ones, .func (PySem.W.fnOf "_law_ones" "_law_ones" (defArgs s_law_ones) (defBody s_law_ones) (defScope s_law_ones) .none kV_law_ones dc_law_ones pm_law_ones an_law_ones cd_law_ones ct_law_ones), sl_law_ones⟩)
    (c_law_ones : PySem.W.codeIn K cd_law_ones "_law_ones" = true)
    (k_law_ones : PySem.W.keepIn K (.ref f_law_ones) = true)
    (a_law_kinds_g : PySem.W.nsIn K mainGlobals "_law_kinds" = some (some (.ref f_law_kinds)))
    (l_law_kinds : K.lookup f_law_kinds = some ⟨oc_law_kinds, od_law_kinds, .func (PySem.W.fnOf "_law_kinds" "_law_kinds" (defArgs s_law_kinds) (defBody s_law_kinds) (defScope s_law_kinds) .none kV_law_kinds dc_law_kinds pm_law_kinds an_law_kinds cd_law_kinds ct_law_kinds), sl_law_kinds⟩)
    (c_law_kinds : PySem.W.codeIn K cd_law_kinds "_law_kinds" = true)
    (k_law_kinds : PySem.W.keepIn K (.ref f_law_kinds) = true)
    (a_law_g : PySem.W.nsIn K mainGlobals "law" = some (some (.ref f_law)))
    (l_law : K.lookup f_law = some ⟨oc_law, od_law, .func (PySem.W.fnOf "law" "law" (defArgs s_law) (defBody s_law) (defScope s_law) .none kV_law dc_law pm_law an_law cd_law ct_law), sl_law⟩)
    (c_law : PySem.W.codeIn K cd_law "law" = true)
    (k_law : PySem.W.keepIn K (.ref f_law) = true)
    (g_InvalidNumber : PySem.W.nsIn K mainGlobals "InvalidNumber" = some (some (.ref a_InvalidNumber)))
    (xL_InvalidNumber : K.lookup a_InvalidNumber = some (excClassObj nm_InvalidNumber q_InvalidNumber a_InvalidNumber N_InvalidNumber bs_InvalidNumber bm_InvalidNumber true sn_InvalidNumber sub_InvalidNumber ab_InvalidNumber col_InvalidNumber dd_InvalidNumber m0_InvalidNumber m1_InvalidNumber m2_InvalidNumber m3_InvalidNumber m5_InvalidNumber "ValueError.__new__"))
    (ve_InvalidNumber : PySem.HandSPX.refsVE bm_InvalidNumber = true)
    (sa_InvalidNumber : PySem.W.findIn K (.ref a_InvalidNumber) "__setattr__" = some (some (.builtin "object.__setattr__")))
    (ga_InvalidNumber : PySem.W.findIn K (.ref a_InvalidNumber) "__getattribute__" = some (some (.builtin "BaseException.__getattribute__")))
    (gg_InvalidNumber : PySem.W.findIn K (.ref a_InvalidNumber) "__getattr__" = some none)
    (no_InvalidNumber : PySem.W.findIn K (.ref a_InvalidNumber) "value" = some none)
    (in_InvalidNumber : PySem.W.findIn K (.ref a_InvalidNumber) "__init__" = some (some (.ref f_InvalidNumber_init)))
    (ti_InvalidNumber : PySem.W.typeIn K (.ref f_InvalidNumber_init) = some (.type "function"))
    (l_InvalidNumber_init : K.lookup f_InvalidNumber_init = some ⟨oc_InvalidNumber_init, od_InvalidNumber_init, .func (PySem.W.fnOf "__init__" "InvalidNumber.__init__" (defArgs s_InvalidNumber_init) (defBody s_InvalidNumber_init) (defScope s_InvalidNumber_init) .none kV_InvalidNumber_init dc_InvalidNumber_init pm_InvalidNumber_init an_InvalidNumber_init cd_InvalidNumber_init ct_InvalidNumber_init), sl_InvalidNumber_init⟩)
    (c_InvalidNumber_init : PySem.W.codeIn K cd_InvalidNumber_init "InvalidNumber.__init__" = true)
    (k_InvalidNumber_init : PySem.W.keepIn K (.ref f_InvalidNumber_init) = true)
    (kC_InvalidNumber : PySem.W.keepIn K (.ref a_InvalidNumber) = true)
    (eC_InvalidNumber : PySem.W.subIn K (.ref a_InvalidNumber) (.type "BaseException") = some true)
    (tC_InvalidNumber : PySem.W.typeIn K (.ref a_InvalidNumber) = some (.type "type"))
    (hC_InvalidNumber : PySem.W.hasDictIn K a_InvalidNumber = true)
    (g_InvalidTable : PySem.W.nsIn K mainGlobals "InvalidTable" = some (some (.ref a_InvalidTable)))
    (xL_InvalidTable : K.lookup a_InvalidTable = some (excClassObj nm_InvalidTable q_InvalidTable a_InvalidTable N_InvalidTable bs_InvalidTable bm_InvalidTable true sn_InvalidTable sub_InvalidTable ab_InvalidTable col_InvalidTable dd_InvalidTable m0_InvalidTable m1_InvalidTable m2_InvalidTable m3_InvalidTable m5_InvalidTable "ValueError.__new__"))
    (ve_InvalidTable : PySem.HandSPX.refsVE bm_InvalidTable = true)
    (sa_InvalidTable : PySem.W.findIn K (.ref a_InvalidTable) "__setattr__" = some (some (.builtin "object.__setattr__")))
    (ga_InvalidTable : PySem.W.findIn K (.ref a_InvalidTable) "__getattribute__" = some (some (.builtin "BaseException.__getattribute__")))
    (gg_InvalidTable : PySem.W.findIn K (.ref a_InvalidTable) "__getattr__" = some none)
    (no_InvalidTable : PySem.W.findIn K (.ref a_InvalidTable) "value" = some none)
    (in_InvalidTable : PySem.W.findIn K (.ref a_InvalidTable) "__init__" = some (some (.ref f_InvalidTable_init)))
    (ti_InvalidTable : PySem.W.typeIn K (.ref f_InvalidTable_init) = some (.type "function"))
    (l_InvalidTable_init : K.lookup f_InvalidTable_init = some ⟨oc_InvalidTable_init, od_InvalidTable_init, .func (PySem.W.fnOf "__init__" "InvalidTable.__init__" (defArgs s_InvalidTable_init) (defBody s_InvalidTable_init) (defScope s_InvalidTable_init) .none kV_InvalidTable_init dc_InvalidTable_init pm_InvalidTable_init an_InvalidTable_init cd_InvalidTable_init ct_InvalidTable_init), sl_InvalidTable_init⟩)
    (c_InvalidTable_init : PySem.W.codeIn K cd_InvalidTable_init "InvalidTable.__init__" = true)
    (k_InvalidTable_init : PySem.W.keepIn K (.ref f_InvalidTable_init) = true)
    (kC_InvalidTable : PySem.W.keepIn K (.ref a_InvalidTable) = true)
    (eC_InvalidTable : PySem.W.subIn K (.ref a_InvalidTable) (.type "BaseException") = some true)
    (tC_InvalidTable : PySem.W.typeIn K (.ref a_InvalidTable) = some (.type "type"))
    (hC_InvalidTable : PySem.W.hasDictIn K a_InvalidTable = true)
    (g_InvalidRow : PySem.W.nsIn K mainGlobals "InvalidRow" = some (some (.ref a_InvalidRow)))
    (xL_InvalidRow : K.lookup a_InvalidRow = some (excClassObj nm_InvalidRow q_InvalidRow a_InvalidRow N_InvalidRow bs_InvalidRow bm_InvalidRow true sn_InvalidRow sub_InvalidRow ab_InvalidRow col_InvalidRow dd_InvalidRow m0_InvalidRow m1_InvalidRow m2_InvalidRow m3_InvalidRow m5_InvalidRow "ValueError.__new__"))
    (ve_InvalidRow : PySem.HandSPX.refsVE bm_InvalidRow = true)
    (sa_InvalidRow : PySem.W.findIn K (.ref a_InvalidRow) "__setattr__" = some (some (.builtin "object.__setattr__")))
    (ga_InvalidRow : PySem.W.findIn K (.ref a_InvalidRow) "__getattribute__" = some (some (.builtin "BaseException.__getattribute__")))
    (gg_InvalidRow : PySem.W.findIn K (.ref a_InvalidRow) "__getattr__" = some none)
    (no_InvalidRow : PySem.W.findIn K (.ref a_InvalidRow) "value" = some none)
    (in_InvalidRow : PySem.W.findIn K (.ref a_InvalidRow) "__init__" = some (some (.ref f_InvalidRow_init)))
    (ti_InvalidRow : PySem.W.typeIn K (.ref f_InvalidRow_init) = some (.type "function"))
    (l_InvalidRow_init : K.lookup f_InvalidRow_init = some ⟨oc_InvalidRow_init, od_InvalidRow_init, .func (PySem.W.fnOf "__init__" "InvalidRow.__init__" (defArgs s_InvalidRow_init) (defBody s_InvalidRow_init) (defScope s_InvalidRow_init) .none kV_InvalidRow_init dc_InvalidRow_init pm_InvalidRow_init an_InvalidRow_init cd_InvalidRow_init ct_InvalidRow_init), sl_InvalidRow_init⟩)
    (c_InvalidRow_init : PySem.W.codeIn K cd_InvalidRow_init "InvalidRow.__init__" = true)
    (k_InvalidRow_init : PySem.W.keepIn K (.ref f_InvalidRow_init) = true)
    (kC_InvalidRow : PySem.W.keepIn K (.ref a_InvalidRow) = true)
    (eC_InvalidRow : PySem.W.subIn K (.ref a_InvalidRow) (.type "BaseException") = some true)
    (tC_InvalidRow : PySem.W.typeIn K (.ref a_InvalidRow) = some (.type "type"))
    (hC_InvalidRow : PySem.W.hasDictIn K a_InvalidRow = true)
    (g_InvalidRules : PySem.W.nsIn K mainGlobals "InvalidRules" = some (some (.ref a_InvalidRules)))
    (xL_InvalidRules : K.lookup a_InvalidRules = some (excClassObj nm_InvalidRules q_InvalidRules a_InvalidRules N_InvalidRules bs_InvalidRules bm_InvalidRules true sn_InvalidRules sub_InvalidRules ab_InvalidRules col_InvalidRules dd_InvalidRules m0_InvalidRules m1_InvalidRules m2_InvalidRules m3_InvalidRules m5_InvalidRules "ValueError.__new__"))
    (ve_InvalidRules : PySem.HandSPX.refsVE bm_InvalidRules = true)
    (sa_InvalidRules : PySem.W.findIn K (.ref a_InvalidRules) "__setattr__" = some (some (.builtin "object.__setattr__")))
    (ga_InvalidRules : PySem.W.findIn K (.ref a_InvalidRules) "__getattribute__" = some (some (.builtin "BaseException.__getattribute__")))
    (gg_InvalidRules : PySem.W.findIn K (.ref a_InvalidRules) "__getattr__" = some none)
    (no_InvalidRules : PySem.W.findIn K (.ref a_InvalidRules) "value" = some none)
    (in_InvalidRules : PySem.W.findIn K (.ref a_InvalidRules) "__init__" = some (some (.ref f_InvalidRules_init)))
    (ti_InvalidRules : PySem.W.typeIn K (.ref f_InvalidRules_init) = some (.type "function"))
    (l_InvalidRules_init : K.lookup f_InvalidRules_init = some ⟨oc_InvalidRules_init, od_InvalidRules_init, .func (PySem.W.fnOf "__init__" "InvalidRules.__init__" (defArgs s_InvalidRules_init) (defBody s_InvalidRules_init) (defScope s_InvalidRules_init) .none kV_InvalidRules_init dc_InvalidRules_init pm_InvalidRules_init an_InvalidRules_init cd_InvalidRules_init ct_InvalidRules_init), sl_InvalidRules_init⟩)
    (c_InvalidRules_init : PySem.W.codeIn K cd_InvalidRules_init "InvalidRules.__init__" = true)
    (k_InvalidRules_init : PySem.W.keepIn K (.ref f_InvalidRules_init) = true)
    (kC_InvalidRules : PySem.W.keepIn K (.ref a_InvalidRules) = true)
    (eC_InvalidRules : PySem.W.subIn K (.ref a_InvalidRules) (.type "BaseException") = some true)
    (tC_InvalidRules : PySem.W.typeIn K (.ref a_InvalidRules) = some (.type "type"))
    (hC_InvalidRules : PySem.W.hasDictIn K a_InvalidRules = true)
    (g_InvalidMachines : PySem.W.nsIn K mainGlobals "InvalidMachines" = some (some (.ref a_InvalidMachines)))
    (xL_InvalidMachines : K.lookup a_InvalidMachines = some (excClassObj nm_InvalidMachines q_InvalidMachines a_InvalidMachines N_InvalidMachines bs_InvalidMachines bm_InvalidMachines true sn_InvalidMachines sub_InvalidMachines ab_InvalidMachines col_InvalidMachines dd_InvalidMachines m0_InvalidMachines m1_InvalidMachines m2_InvalidMachines m3_InvalidMachines m5_InvalidMachines "ValueError.__new__"))
    (ve_InvalidMachines : PySem.HandSPX.refsVE bm_InvalidMachines = true)
    (sa_InvalidMachines : PySem.W.findIn K (.ref a_InvalidMachines) "__setattr__" = some (some (.builtin "object.__setattr__")))
    (ga_InvalidMachines : PySem.W.findIn K (.ref a_InvalidMachines) "__getattribute__" = some (some (.builtin "BaseException.__getattribute__")))
    (gg_InvalidMachines : PySem.W.findIn K (.ref a_InvalidMachines) "__getattr__" = some none)
    (no_InvalidMachines : PySem.W.findIn K (.ref a_InvalidMachines) "value" = some none)
    (in_InvalidMachines : PySem.W.findIn K (.ref a_InvalidMachines) "__init__" = some (some (.ref f_InvalidMachines_init)))
    (ti_InvalidMachines : PySem.W.typeIn K (.ref f_InvalidMachines_init) = some (.type "function"))
    (l_InvalidMachines_init : K.lookup f_InvalidMachines_init = some ⟨oc_InvalidMachines_init, od_InvalidMachines_init, .func (PySem.W.fnOf "__init__" "InvalidMachines.__init__" (defArgs s_InvalidMachines_init) (defBody s_InvalidMachines_init) (defScope s_InvalidMachines_init) .none kV_InvalidMachines_init dc_InvalidMachines_init pm_InvalidMachines_init an_InvalidMachines_init cd_InvalidMachines_init ct_InvalidMachines_init), sl_InvalidMachines_init⟩)
    (c_InvalidMachines_init : PySem.W.codeIn K cd_InvalidMachines_init "InvalidMachines.__init__" = true)
    (k_InvalidMachines_init : PySem.W.keepIn K (.ref f_InvalidMachines_init) = true)
    (kC_InvalidMachines : PySem.W.keepIn K (.ref a_InvalidMachines) = true)
    (eC_InvalidMachines : PySem.W.subIn K (.ref a_InvalidMachines) (.type "BaseException") = some true)
    (tC_InvalidMachines : PySem.W.typeIn K (.ref a_InvalidMachines) = some (.type "type"))
    (hC_InvalidMachines : PySem.W.hasDictIn K a_InvalidMachines = true)
    (g_InvalidWants : PySem.W.nsIn K mainGlobals "InvalidWants" = some (some (.ref a_InvalidWants)))
    (xL_InvalidWants : K.lookup a_InvalidWants = some (excClassObj nm_InvalidWants q_InvalidWants a_InvalidWants N_InvalidWants bs_InvalidWants bm_InvalidWants true sn_InvalidWants sub_InvalidWants ab_InvalidWants col_InvalidWants dd_InvalidWants m0_InvalidWants m1_InvalidWants m2_InvalidWants m3_InvalidWants m5_InvalidWants "ValueError.__new__"))
    (ve_InvalidWants : PySem.HandSPX.refsVE bm_InvalidWants = true)
    (sa_InvalidWants : PySem.W.findIn K (.ref a_InvalidWants) "__setattr__" = some (some (.builtin "object.__setattr__")))
    (ga_InvalidWants : PySem.W.findIn K (.ref a_InvalidWants) "__getattribute__" = some (some (.builtin "BaseException.__getattribute__")))
    (gg_InvalidWants : PySem.W.findIn K (.ref a_InvalidWants) "__getattr__" = some none)
    (no_InvalidWants : PySem.W.findIn K (.ref a_InvalidWants) "value" = some none)
    (in_InvalidWants : PySem.W.findIn K (.ref a_InvalidWants) "__init__" = some (some (.ref f_InvalidWants_init)))
    (ti_InvalidWants : PySem.W.typeIn K (.ref f_InvalidWants_init) = some (.type "function"))
    (l_InvalidWants_init : K.lookup f_InvalidWants_init = some ⟨oc_InvalidWants_init, od_InvalidWants_init, .func (PySem.W.fnOf "__init__" "InvalidWants.__init__" (defArgs s_InvalidWants_init) (defBody s_InvalidWants_init) (defScope s_InvalidWants_init) .none kV_InvalidWants_init dc_InvalidWants_init pm_InvalidWants_init an_InvalidWants_init cd_InvalidWants_init ct_InvalidWants_init), sl_InvalidWants_init⟩)
    (c_InvalidWants_init : PySem.W.codeIn K cd_InvalidWants_init "InvalidWants.__init__" = true)
    (k_InvalidWants_init : PySem.W.keepIn K (.ref f_InvalidWants_init) = true)
    (kC_InvalidWants : PySem.W.keepIn K (.ref a_InvalidWants) = true)
    (eC_InvalidWants : PySem.W.subIn K (.ref a_InvalidWants) (.type "BaseException") = some true)
    (tC_InvalidWants : PySem.W.typeIn K (.ref a_InvalidWants) = some (.type "type"))
    (hC_InvalidWants : PySem.W.hasDictIn K a_InvalidWants = true)
    (g_InvalidRota : PySem.W.nsIn K mainGlobals "InvalidRota" = some (some (.ref a_InvalidRota)))
    (xL_InvalidRota : K.lookup a_InvalidRota = some (excClassObj nm_InvalidRota q_InvalidRota a_InvalidRota N_InvalidRota bs_InvalidRota bm_InvalidRota true sn_InvalidRota sub_InvalidRota ab_InvalidRota col_InvalidRota dd_InvalidRota m0_InvalidRota m1_InvalidRota m2_InvalidRota m3_InvalidRota m5_InvalidRota "ValueError.__new__"))
    (ve_InvalidRota : PySem.HandSPX.refsVE bm_InvalidRota = true)
    (sa_InvalidRota : PySem.W.findIn K (.ref a_InvalidRota) "__setattr__" = some (some (.builtin "object.__setattr__")))
    (ga_InvalidRota : PySem.W.findIn K (.ref a_InvalidRota) "__getattribute__" = some (some (.builtin "BaseException.__getattribute__")))
    (gg_InvalidRota : PySem.W.findIn K (.ref a_InvalidRota) "__getattr__" = some none)
    (no_InvalidRota : PySem.W.findIn K (.ref a_InvalidRota) "value" = some none)
    (in_InvalidRota : PySem.W.findIn K (.ref a_InvalidRota) "__init__" = some (some (.ref f_InvalidRota_init)))
    (ti_InvalidRota : PySem.W.typeIn K (.ref f_InvalidRota_init) = some (.type "function"))
    (l_InvalidRota_init : K.lookup f_InvalidRota_init = some ⟨oc_InvalidRota_init, od_InvalidRota_init, .func (PySem.W.fnOf "__init__" "InvalidRota.__init__" (defArgs s_InvalidRota_init) (defBody s_InvalidRota_init) (defScope s_InvalidRota_init) .none kV_InvalidRota_init dc_InvalidRota_init pm_InvalidRota_init an_InvalidRota_init cd_InvalidRota_init ct_InvalidRota_init), sl_InvalidRota_init⟩)
    (c_InvalidRota_init : PySem.W.codeIn K cd_InvalidRota_init "InvalidRota.__init__" = true)
    (k_InvalidRota_init : PySem.W.keepIn K (.ref f_InvalidRota_init) = true)
    (kC_InvalidRota : PySem.W.keepIn K (.ref a_InvalidRota) = true)
    (eC_InvalidRota : PySem.W.subIn K (.ref a_InvalidRota) (.type "BaseException") = some true)
    (tC_InvalidRota : PySem.W.typeIn K (.ref a_InvalidRota) = some (.type "type"))
    (hC_InvalidRota : PySem.W.hasDictIn K a_InvalidRota = true)
    (g_InvalidDislikes : PySem.W.nsIn K mainGlobals "InvalidDislikes" = some (some (.ref a_InvalidDislikes)))
    (xL_InvalidDislikes : K.lookup a_InvalidDislikes = some (excClassObj nm_InvalidDislikes q_InvalidDislikes a_InvalidDislikes N_InvalidDislikes bs_InvalidDislikes bm_InvalidDislikes true sn_InvalidDislikes sub_InvalidDislikes ab_InvalidDislikes col_InvalidDislikes dd_InvalidDislikes m0_InvalidDislikes m1_InvalidDislikes m2_InvalidDislikes m3_InvalidDislikes m5_InvalidDislikes "ValueError.__new__"))
    (ve_InvalidDislikes : PySem.HandSPX.refsVE bm_InvalidDislikes = true)
    (sa_InvalidDislikes : PySem.W.findIn K (.ref a_InvalidDislikes) "__setattr__" = some (some (.builtin "object.__setattr__")))
    (ga_InvalidDislikes : PySem.W.findIn K (.ref a_InvalidDislikes) "__getattribute__" = some (some (.builtin "BaseException.__getattribute__")))
    (gg_InvalidDislikes : PySem.W.findIn K (.ref a_InvalidDislikes) "__getattr__" = some none)
    (no_InvalidDislikes : PySem.W.findIn K (.ref a_InvalidDislikes) "value" = some none)
    (in_InvalidDislikes : PySem.W.findIn K (.ref a_InvalidDislikes) "__init__" = some (some (.ref f_InvalidDislikes_init)))
    (ti_InvalidDislikes : PySem.W.typeIn K (.ref f_InvalidDislikes_init) = some (.type "function"))
    (l_InvalidDislikes_init : K.lookup f_InvalidDislikes_init = some ⟨oc_InvalidDislikes_init, od_InvalidDislikes_init, .func (PySem.W.fnOf "__init__" "InvalidDislikes.__init__" (defArgs s_InvalidDislikes_init) (defBody s_InvalidDislikes_init) (defScope s_InvalidDislikes_init) .none kV_InvalidDislikes_init dc_InvalidDislikes_init pm_InvalidDislikes_init an_InvalidDislikes_init cd_InvalidDislikes_init ct_InvalidDislikes_init), sl_InvalidDislikes_init⟩)
    (c_InvalidDislikes_init : PySem.W.codeIn K cd_InvalidDislikes_init "InvalidDislikes.__init__" = true)
    (k_InvalidDislikes_init : PySem.W.keepIn K (.ref f_InvalidDislikes_init) = true)
    (kC_InvalidDislikes : PySem.W.keepIn K (.ref a_InvalidDislikes) = true)
    (eC_InvalidDislikes : PySem.W.subIn K (.ref a_InvalidDislikes) (.type "BaseException") = some true)
    (tC_InvalidDislikes : PySem.W.typeIn K (.ref a_InvalidDislikes) = some (.type "type"))
    (hC_InvalidDislikes : PySem.W.hasDictIn K a_InvalidDislikes = true)
    (g_InvalidLoads : PySem.W.nsIn K mainGlobals "InvalidLoads" = some (some (.ref a_InvalidLoads)))
    (xL_InvalidLoads : K.lookup a_InvalidLoads = some (excClassObj nm_InvalidLoads q_InvalidLoads a_InvalidLoads N_InvalidLoads bs_InvalidLoads bm_InvalidLoads true sn_InvalidLoads sub_InvalidLoads ab_InvalidLoads col_InvalidLoads dd_InvalidLoads m0_InvalidLoads m1_InvalidLoads m2_InvalidLoads m3_InvalidLoads m5_InvalidLoads "ValueError.__new__"))
    (ve_InvalidLoads : PySem.HandSPX.refsVE bm_InvalidLoads = true)
    (sa_InvalidLoads : PySem.W.findIn K (.ref a_InvalidLoads) "__setattr__" = some (some (.builtin "object.__setattr__")))
    (ga_InvalidLoads : PySem.W.findIn K (.ref a_InvalidLoads) "__getattribute__" = some (some (.builtin "BaseException.__getattribute__")))
    (gg_InvalidLoads : PySem.W.findIn K (.ref a_InvalidLoads) "__getattr__" = some none)
    (no_InvalidLoads : PySem.W.findIn K (.ref a_InvalidLoads) "value" = some none)
    (in_InvalidLoads : PySem.W.findIn K (.ref a_InvalidLoads) "__init__" = some (some (.ref f_InvalidLoads_init)))
    (ti_InvalidLoads : PySem.W.typeIn K (.ref f_InvalidLoads_init) = some (.type "function"))
    (l_InvalidLoads_init : K.lookup f_InvalidLoads_init = some ⟨oc_InvalidLoads_init, od_InvalidLoads_init, .func (PySem.W.fnOf "__init__" "InvalidLoads.__init__" (defArgs s_InvalidLoads_init) (defBody s_InvalidLoads_init) (defScope s_InvalidLoads_init) .none kV_InvalidLoads_init dc_InvalidLoads_init pm_InvalidLoads_init an_InvalidLoads_init cd_InvalidLoads_init ct_InvalidLoads_init), sl_InvalidLoads_init⟩)
    (c_InvalidLoads_init : PySem.W.codeIn K cd_InvalidLoads_init "InvalidLoads.__init__" = true)
    (k_InvalidLoads_init : PySem.W.keepIn K (.ref f_InvalidLoads_init) = true)
    (kC_InvalidLoads : PySem.W.keepIn K (.ref a_InvalidLoads) = true)
    (eC_InvalidLoads : PySem.W.subIn K (.ref a_InvalidLoads) (.type "BaseException") = some true)
    (tC_InvalidLoads : PySem.W.typeIn K (.ref a_InvalidLoads) = some (.type "type"))
    (hC_InvalidLoads : PySem.W.hasDictIn K a_InvalidLoads = true)
    (g_InvalidFixed : PySem.W.nsIn K mainGlobals "InvalidFixed" = some (some (.ref a_InvalidFixed)))
    (xL_InvalidFixed : K.lookup a_InvalidFixed = some (excClassObj nm_InvalidFixed q_InvalidFixed a_InvalidFixed N_InvalidFixed bs_InvalidFixed bm_InvalidFixed true sn_InvalidFixed sub_InvalidFixed ab_InvalidFixed col_InvalidFixed dd_InvalidFixed m0_InvalidFixed m1_InvalidFixed m2_InvalidFixed m3_InvalidFixed m5_InvalidFixed "ValueError.__new__"))
    (ve_InvalidFixed : PySem.HandSPX.refsVE bm_InvalidFixed = true)
    (sa_InvalidFixed : PySem.W.findIn K (.ref a_InvalidFixed) "__setattr__" = some (some (.builtin "object.__setattr__")))
    (ga_InvalidFixed : PySem.W.findIn K (.ref a_InvalidFixed) "__getattribute__" = some (some (.builtin "BaseException.__getattribute__")))
    (gg_InvalidFixed : PySem.W.findIn K (.ref a_InvalidFixed) "__getattr__" = some none)
    (no_InvalidFixed : PySem.W.findIn K (.ref a_InvalidFixed) "value" = some none)
    (in_InvalidFixed : PySem.W.findIn K (.ref a_InvalidFixed) "__init__" = some (some (.ref f_InvalidFixed_init)))
    (ti_InvalidFixed : PySem.W.typeIn K (.ref f_InvalidFixed_init) = some (.type "function"))
    (l_InvalidFixed_init : K.lookup f_InvalidFixed_init = some ⟨oc_InvalidFixed_init, od_InvalidFixed_init, .func (PySem.W.fnOf "__init__" "InvalidFixed.__init__" (defArgs s_InvalidFixed_init) (defBody s_InvalidFixed_init) (defScope s_InvalidFixed_init) .none kV_InvalidFixed_init dc_InvalidFixed_init pm_InvalidFixed_init an_InvalidFixed_init cd_InvalidFixed_init ct_InvalidFixed_init), sl_InvalidFixed_init⟩)
    (c_InvalidFixed_init : PySem.W.codeIn K cd_InvalidFixed_init "InvalidFixed.__init__" = true)
    (k_InvalidFixed_init : PySem.W.keepIn K (.ref f_InvalidFixed_init) = true)
    (kC_InvalidFixed : PySem.W.keepIn K (.ref a_InvalidFixed) = true)
    (eC_InvalidFixed : PySem.W.subIn K (.ref a_InvalidFixed) (.type "BaseException") = some true)
    (tC_InvalidFixed : PySem.W.typeIn K (.ref a_InvalidFixed) = some (.type "type"))
    (hC_InvalidFixed : PySem.W.hasDictIn K a_InvalidFixed = true)
    (g_InvalidSkills : PySem.W.nsIn K mainGlobals "InvalidSkills" = some (some (.ref a_InvalidSkills)))
    (xL_InvalidSkills : K.lookup a_InvalidSkills = some (excClassObj nm_InvalidSkills q_InvalidSkills a_InvalidSkills N_InvalidSkills bs_InvalidSkills bm_InvalidSkills true sn_InvalidSkills sub_InvalidSkills ab_InvalidSkills col_InvalidSkills dd_InvalidSkills m0_InvalidSkills m1_InvalidSkills m2_InvalidSkills m3_InvalidSkills m5_InvalidSkills "ValueError.__new__"))
    (ve_InvalidSkills : PySem.HandSPX.refsVE bm_InvalidSkills = true)
    (sa_InvalidSkills : PySem.W.findIn K (.ref a_InvalidSkills) "__setattr__" = some (some (.builtin "object.__setattr__")))
    (ga_InvalidSkills : PySem.W.findIn K (.ref a_InvalidSkills) "__getattribute__" = some (some (.builtin "BaseException.__getattribute__")))
    (gg_InvalidSkills : PySem.W.findIn K (.ref a_InvalidSkills) "__getattr__" = some none)
    (no_InvalidSkills : PySem.W.findIn K (.ref a_InvalidSkills) "value" = some none)
    (in_InvalidSkills : PySem.W.findIn K (.ref a_InvalidSkills) "__init__" = some (some (.ref f_InvalidSkills_init)))
    (ti_InvalidSkills : PySem.W.typeIn K (.ref f_InvalidSkills_init) = some (.type "function"))
    (l_InvalidSkills_init : K.lookup f_InvalidSkills_init = some ⟨oc_InvalidSkills_init, od_InvalidSkills_init, .func (PySem.W.fnOf "__init__" "InvalidSkills.__init__" (defArgs s_InvalidSkills_init) (defBody s_InvalidSkills_init) (defScope s_InvalidSkills_init) .none kV_InvalidSkills_init dc_InvalidSkills_init pm_InvalidSkills_init an_InvalidSkills_init cd_InvalidSkills_init ct_InvalidSkills_init), sl_InvalidSkills_init⟩)
    (c_InvalidSkills_init : PySem.W.codeIn K cd_InvalidSkills_init "InvalidSkills.__init__" = true)
    (k_InvalidSkills_init : PySem.W.keepIn K (.ref f_InvalidSkills_init) = true)
    (kC_InvalidSkills : PySem.W.keepIn K (.ref a_InvalidSkills) = true)
    (eC_InvalidSkills : PySem.W.subIn K (.ref a_InvalidSkills) (.type "BaseException") = some true)
    (tC_InvalidSkills : PySem.W.typeIn K (.ref a_InvalidSkills) = some (.type "type"))
    (hC_InvalidSkills : PySem.W.hasDictIn K a_InvalidSkills = true)
    (g_InvalidPosts : PySem.W.nsIn K mainGlobals "InvalidPosts" = some (some (.ref a_InvalidPosts)))
    (xL_InvalidPosts : K.lookup a_InvalidPosts = some (excClassObj nm_InvalidPosts q_InvalidPosts a_InvalidPosts N_InvalidPosts bs_InvalidPosts bm_InvalidPosts true sn_InvalidPosts sub_InvalidPosts ab_InvalidPosts col_InvalidPosts dd_InvalidPosts m0_InvalidPosts m1_InvalidPosts m2_InvalidPosts m3_InvalidPosts m5_InvalidPosts "ValueError.__new__"))
    (ve_InvalidPosts : PySem.HandSPX.refsVE bm_InvalidPosts = true)
    (sa_InvalidPosts : PySem.W.findIn K (.ref a_InvalidPosts) "__setattr__" = some (some (.builtin "object.__setattr__")))
    (ga_InvalidPosts : PySem.W.findIn K (.ref a_InvalidPosts) "__getattribute__" = some (some (.builtin "BaseException.__getattribute__")))
    (gg_InvalidPosts : PySem.W.findIn K (.ref a_InvalidPosts) "__getattr__" = some none)
    (no_InvalidPosts : PySem.W.findIn K (.ref a_InvalidPosts) "value" = some none)
    (in_InvalidPosts : PySem.W.findIn K (.ref a_InvalidPosts) "__init__" = some (some (.ref f_InvalidPosts_init)))
    (ti_InvalidPosts : PySem.W.typeIn K (.ref f_InvalidPosts_init) = some (.type "function"))
    (l_InvalidPosts_init : K.lookup f_InvalidPosts_init = some ⟨oc_InvalidPosts_init, od_InvalidPosts_init, .func (PySem.W.fnOf "__init__" "InvalidPosts.__init__" (defArgs s_InvalidPosts_init) (defBody s_InvalidPosts_init) (defScope s_InvalidPosts_init) .none kV_InvalidPosts_init dc_InvalidPosts_init pm_InvalidPosts_init an_InvalidPosts_init cd_InvalidPosts_init ct_InvalidPosts_init), sl_InvalidPosts_init⟩)
    (c_InvalidPosts_init : PySem.W.codeIn K cd_InvalidPosts_init "InvalidPosts.__init__" = true)
    (k_InvalidPosts_init : PySem.W.keepIn K (.ref f_InvalidPosts_init) = true)
    (kC_InvalidPosts : PySem.W.keepIn K (.ref a_InvalidPosts) = true)
    (eC_InvalidPosts : PySem.W.subIn K (.ref a_InvalidPosts) (.type "BaseException") = some true)
    (tC_InvalidPosts : PySem.W.typeIn K (.ref a_InvalidPosts) = some (.type "type"))
    (hC_InvalidPosts : PySem.W.hasDictIn K a_InvalidPosts = true)
    (g_InvalidJobs : PySem.W.nsIn K mainGlobals "InvalidJobs" = some (some (.ref a_InvalidJobs)))
    (xL_InvalidJobs : K.lookup a_InvalidJobs = some (excClassObj nm_InvalidJobs q_InvalidJobs a_InvalidJobs N_InvalidJobs bs_InvalidJobs bm_InvalidJobs true sn_InvalidJobs sub_InvalidJobs ab_InvalidJobs col_InvalidJobs dd_InvalidJobs m0_InvalidJobs m1_InvalidJobs m2_InvalidJobs m3_InvalidJobs m5_InvalidJobs "ValueError.__new__"))
    (ve_InvalidJobs : PySem.HandSPX.refsVE bm_InvalidJobs = true)
    (sa_InvalidJobs : PySem.W.findIn K (.ref a_InvalidJobs) "__setattr__" = some (some (.builtin "object.__setattr__")))
    (ga_InvalidJobs : PySem.W.findIn K (.ref a_InvalidJobs) "__getattribute__" = some (some (.builtin "BaseException.__getattribute__")))
    (gg_InvalidJobs : PySem.W.findIn K (.ref a_InvalidJobs) "__getattr__" = some none)
    (no_InvalidJobs : PySem.W.findIn K (.ref a_InvalidJobs) "value" = some none)
    (in_InvalidJobs : PySem.W.findIn K (.ref a_InvalidJobs) "__init__" = some (some (.ref f_InvalidJobs_init)))
    (ti_InvalidJobs : PySem.W.typeIn K (.ref f_InvalidJobs_init) = some (.type "function"))
    (l_InvalidJobs_init : K.lookup f_InvalidJobs_init = some ⟨oc_InvalidJobs_init, od_InvalidJobs_init, .func (PySem.W.fnOf "__init__" "InvalidJobs.__init__" (defArgs s_InvalidJobs_init) (defBody s_InvalidJobs_init) (defScope s_InvalidJobs_init) .none kV_InvalidJobs_init dc_InvalidJobs_init pm_InvalidJobs_init an_InvalidJobs_init cd_InvalidJobs_init ct_InvalidJobs_init), sl_InvalidJobs_init⟩)
    (c_InvalidJobs_init : PySem.W.codeIn K cd_InvalidJobs_init "InvalidJobs.__init__" = true)
    (k_InvalidJobs_init : PySem.W.keepIn K (.ref f_InvalidJobs_init) = true)
    (kC_InvalidJobs : PySem.W.keepIn K (.ref a_InvalidJobs) = true)
    (eC_InvalidJobs : PySem.W.subIn K (.ref a_InvalidJobs) (.type "BaseException") = some true)
    (tC_InvalidJobs : PySem.W.typeIn K (.ref a_InvalidJobs) = some (.type "type"))
    (hC_InvalidJobs : PySem.W.hasDictIn K a_InvalidJobs = true)
    (g_InvalidPart : PySem.W.nsIn K mainGlobals "InvalidPart" = some (some (.ref a_InvalidPart)))
    (xL_InvalidPart : K.lookup a_InvalidPart = some (excClassObj nm_InvalidPart q_InvalidPart a_InvalidPart N_InvalidPart bs_InvalidPart bm_InvalidPart true sn_InvalidPart sub_InvalidPart ab_InvalidPart col_InvalidPart dd_InvalidPart m0_InvalidPart m1_InvalidPart m2_InvalidPart m3_InvalidPart m5_InvalidPart "ValueError.__new__"))
    (ve_InvalidPart : PySem.HandSPX.refsVE bm_InvalidPart = true)
    (sa_InvalidPart : PySem.W.findIn K (.ref a_InvalidPart) "__setattr__" = some (some (.builtin "object.__setattr__")))
    (ga_InvalidPart : PySem.W.findIn K (.ref a_InvalidPart) "__getattribute__" = some (some (.builtin "BaseException.__getattribute__")))
    (gg_InvalidPart : PySem.W.findIn K (.ref a_InvalidPart) "__getattr__" = some none)
    (no_InvalidPart : PySem.W.findIn K (.ref a_InvalidPart) "value" = some none)
    (in_InvalidPart : PySem.W.findIn K (.ref a_InvalidPart) "__init__" = some (some (.ref f_InvalidPart_init)))
    (ti_InvalidPart : PySem.W.typeIn K (.ref f_InvalidPart_init) = some (.type "function"))
    (l_InvalidPart_init : K.lookup f_InvalidPart_init = some ⟨oc_InvalidPart_init, od_InvalidPart_init, .func (PySem.W.fnOf "__init__" "InvalidPart.__init__" (defArgs s_InvalidPart_init) (defBody s_InvalidPart_init) (defScope s_InvalidPart_init) .none kV_InvalidPart_init dc_InvalidPart_init pm_InvalidPart_init an_InvalidPart_init cd_InvalidPart_init ct_InvalidPart_init), sl_InvalidPart_init⟩)
    (c_InvalidPart_init : PySem.W.codeIn K cd_InvalidPart_init "InvalidPart.__init__" = true)
    (k_InvalidPart_init : PySem.W.keepIn K (.ref f_InvalidPart_init) = true)
    (kC_InvalidPart : PySem.W.keepIn K (.ref a_InvalidPart) = true)
    (eC_InvalidPart : PySem.W.subIn K (.ref a_InvalidPart) (.type "BaseException") = some true)
    (tC_InvalidPart : PySem.W.typeIn K (.ref a_InvalidPart) = some (.type "type"))
    (hC_InvalidPart : PySem.W.hasDictIn K a_InvalidPart = true)
    (g_InvalidQuestion : PySem.W.nsIn K mainGlobals "InvalidQuestion" = some (some (.ref a_InvalidQuestion)))
    (xL_InvalidQuestion : K.lookup a_InvalidQuestion = some (excClassObj nm_InvalidQuestion q_InvalidQuestion a_InvalidQuestion N_InvalidQuestion bs_InvalidQuestion bm_InvalidQuestion true sn_InvalidQuestion sub_InvalidQuestion ab_InvalidQuestion col_InvalidQuestion dd_InvalidQuestion m0_InvalidQuestion m1_InvalidQuestion m2_InvalidQuestion m3_InvalidQuestion m5_InvalidQuestion "ValueError.__new__"))
    (ve_InvalidQuestion : PySem.HandSPX.refsVE bm_InvalidQuestion = true)
    (sa_InvalidQuestion : PySem.W.findIn K (.ref a_InvalidQuestion) "__setattr__" = some (some (.builtin "object.__setattr__")))
    (ga_InvalidQuestion : PySem.W.findIn K (.ref a_InvalidQuestion) "__getattribute__" = some (some (.builtin "BaseException.__getattribute__")))
    (gg_InvalidQuestion : PySem.W.findIn K (.ref a_InvalidQuestion) "__getattr__" = some none)
    (no_InvalidQuestion : PySem.W.findIn K (.ref a_InvalidQuestion) "value" = some none)
    (in_InvalidQuestion : PySem.W.findIn K (.ref a_InvalidQuestion) "__init__" = some (some (.ref f_InvalidQuestion_init)))
    (ti_InvalidQuestion : PySem.W.typeIn K (.ref f_InvalidQuestion_init) = some (.type "function"))
    (l_InvalidQuestion_init : K.lookup f_InvalidQuestion_init = some ⟨oc_InvalidQuestion_init, od_InvalidQuestion_init, .func (PySem.W.fnOf "__init__" "InvalidQuestion.__init__" (defArgs s_InvalidQuestion_init) (defBody s_InvalidQuestion_init) (defScope s_InvalidQuestion_init) .none kV_InvalidQuestion_init dc_InvalidQuestion_init pm_InvalidQuestion_init an_InvalidQuestion_init cd_InvalidQuestion_init ct_InvalidQuestion_init), sl_InvalidQuestion_init⟩)
    (c_InvalidQuestion_init : PySem.W.codeIn K cd_InvalidQuestion_init "InvalidQuestion.__init__" = true)
    (k_InvalidQuestion_init : PySem.W.keepIn K (.ref f_InvalidQuestion_init) = true)
    (kC_InvalidQuestion : PySem.W.keepIn K (.ref a_InvalidQuestion) = true)
    (eC_InvalidQuestion : PySem.W.subIn K (.ref a_InvalidQuestion) (.type "BaseException") = some true)
    (tC_InvalidQuestion : PySem.W.typeIn K (.ref a_InvalidQuestion) = some (.type "type"))
    (hC_InvalidQuestion : PySem.W.hasDictIn K a_InvalidQuestion = true)
    (g_InvalidClaim : PySem.W.nsIn K mainGlobals "InvalidClaim" = some (some (.ref a_InvalidClaim)))
    (xL_InvalidClaim : K.lookup a_InvalidClaim = some (excClassObj nm_InvalidClaim q_InvalidClaim a_InvalidClaim N_InvalidClaim bs_InvalidClaim bm_InvalidClaim true sn_InvalidClaim sub_InvalidClaim ab_InvalidClaim col_InvalidClaim dd_InvalidClaim m0_InvalidClaim m1_InvalidClaim m2_InvalidClaim m3_InvalidClaim m5_InvalidClaim "ValueError.__new__"))
    (ve_InvalidClaim : PySem.HandSPX.refsVE bm_InvalidClaim = true)
    (sa_InvalidClaim : PySem.W.findIn K (.ref a_InvalidClaim) "__setattr__" = some (some (.builtin "object.__setattr__")))
    (ga_InvalidClaim : PySem.W.findIn K (.ref a_InvalidClaim) "__getattribute__" = some (some (.builtin "BaseException.__getattribute__")))
    (gg_InvalidClaim : PySem.W.findIn K (.ref a_InvalidClaim) "__getattr__" = some none)
    (no_InvalidClaim : PySem.W.findIn K (.ref a_InvalidClaim) "value" = some none)
    (in_InvalidClaim : PySem.W.findIn K (.ref a_InvalidClaim) "__init__" = some (some (.ref f_InvalidClaim_init)))
    (ti_InvalidClaim : PySem.W.typeIn K (.ref f_InvalidClaim_init) = some (.type "function"))
    (l_InvalidClaim_init : K.lookup f_InvalidClaim_init = some ⟨oc_InvalidClaim_init, od_InvalidClaim_init, .func (PySem.W.fnOf "__init__" "InvalidClaim.__init__" (defArgs s_InvalidClaim_init) (defBody s_InvalidClaim_init) (defScope s_InvalidClaim_init) .none kV_InvalidClaim_init dc_InvalidClaim_init pm_InvalidClaim_init an_InvalidClaim_init cd_InvalidClaim_init ct_InvalidClaim_init), sl_InvalidClaim_init⟩)
    (c_InvalidClaim_init : PySem.W.codeIn K cd_InvalidClaim_init "InvalidClaim.__init__" = true)
    (k_InvalidClaim_init : PySem.W.keepIn K (.ref f_InvalidClaim_init) = true)
    (kC_InvalidClaim : PySem.W.keepIn K (.ref a_InvalidClaim) = true)
    (eC_InvalidClaim : PySem.W.subIn K (.ref a_InvalidClaim) (.type "BaseException") = some true)
    (tC_InvalidClaim : PySem.W.typeIn K (.ref a_InvalidClaim) = some (.type "type"))
    (hC_InvalidClaim : PySem.W.hasDictIn K a_InvalidClaim = true)
    (g_TooLarge : PySem.W.nsIn K mainGlobals "TooLarge" = some (some (.ref a_TooLarge)))
    (xL_TooLarge : K.lookup a_TooLarge = some (excClassObj nm_TooLarge q_TooLarge a_TooLarge N_TooLarge bs_TooLarge bm_TooLarge true sn_TooLarge sub_TooLarge ab_TooLarge col_TooLarge dd_TooLarge m0_TooLarge m1_TooLarge m2_TooLarge m3_TooLarge m5_TooLarge "ValueError.__new__"))
    (ve_TooLarge : PySem.HandSPX.refsVE bm_TooLarge = true)
    (sa_TooLarge : PySem.W.findIn K (.ref a_TooLarge) "__setattr__" = some (some (.builtin "object.__setattr__")))
    (ga_TooLarge : PySem.W.findIn K (.ref a_TooLarge) "__getattribute__" = some (some (.builtin "BaseException.__getattribute__")))
    (gg_TooLarge : PySem.W.findIn K (.ref a_TooLarge) "__getattr__" = some none)
    (no_TooLarge : PySem.W.findIn K (.ref a_TooLarge) "many" = some none)
    (in_TooLarge : PySem.W.findIn K (.ref a_TooLarge) "__init__" = some (some (.ref f_TooLarge_init)))
    (ti_TooLarge : PySem.W.typeIn K (.ref f_TooLarge_init) = some (.type "function"))
    (l_TooLarge_init : K.lookup f_TooLarge_init = some ⟨oc_TooLarge_init, od_TooLarge_init, .func (PySem.W.fnOf "__init__" "TooLarge.__init__" (defArgs s_TooLarge_init) (defBody s_TooLarge_init) (defScope s_TooLarge_init) .none kV_TooLarge_init dc_TooLarge_init pm_TooLarge_init an_TooLarge_init cd_TooLarge_init ct_TooLarge_init), sl_TooLarge_init⟩)
    (c_TooLarge_init : PySem.W.codeIn K cd_TooLarge_init "TooLarge.__init__" = true)
    (k_TooLarge_init : PySem.W.keepIn K (.ref f_TooLarge_init) = true)
    (kC_TooLarge : PySem.W.keepIn K (.ref a_TooLarge) = true)
    (eC_TooLarge : PySem.W.subIn K (.ref a_TooLarge) (.type "BaseException") = some true)
    (tC_TooLarge : PySem.W.typeIn K (.ref a_TooLarge) = some (.type "type"))
    (hC_TooLarge : PySem.W.hasDictIn K a_TooLarge = true)
    (g_Undefined : PySem.W.nsIn K mainGlobals "Undefined" = some (some (.ref a_Undefined)))
    (xL_Undefined : K.lookup a_Undefined = some (excClassObj nm_Undefined q_Undefined a_Undefined N_Undefined bs_Undefined bm_Undefined true sn_Undefined sub_Undefined ab_Undefined col_Undefined dd_Undefined m0_Undefined m1_Undefined m2_Undefined m3_Undefined m5_Undefined "ValueError.__new__"))
    (ve_Undefined : PySem.HandSPX.refsVE bm_Undefined = true)
    (sa_Undefined : PySem.W.findIn K (.ref a_Undefined) "__setattr__" = some (some (.builtin "object.__setattr__")))
    (ga_Undefined : PySem.W.findIn K (.ref a_Undefined) "__getattribute__" = some (some (.builtin "BaseException.__getattribute__")))
    (gg_Undefined : PySem.W.findIn K (.ref a_Undefined) "__getattr__" = some none)
    (no_Undefined : PySem.W.findIn K (.ref a_Undefined) "what" = some none)
    (in_Undefined : PySem.W.findIn K (.ref a_Undefined) "__init__" = some (some (.ref f_Undefined_init)))
    (ti_Undefined : PySem.W.typeIn K (.ref f_Undefined_init) = some (.type "function"))
    (l_Undefined_init : K.lookup f_Undefined_init = some ⟨oc_Undefined_init, od_Undefined_init, .func (PySem.W.fnOf "__init__" "Undefined.__init__" (defArgs s_Undefined_init) (defBody s_Undefined_init) (defScope s_Undefined_init) .none kV_Undefined_init dc_Undefined_init pm_Undefined_init an_Undefined_init cd_Undefined_init ct_Undefined_init), sl_Undefined_init⟩)
    (c_Undefined_init : PySem.W.codeIn K cd_Undefined_init "Undefined.__init__" = true)
    (k_Undefined_init : PySem.W.keepIn K (.ref f_Undefined_init) = true)
    (kC_Undefined : PySem.W.keepIn K (.ref a_Undefined) = true)
    (eC_Undefined : PySem.W.subIn K (.ref a_Undefined) (.type "BaseException") = some true)
    (tC_Undefined : PySem.W.typeIn K (.ref a_Undefined) = some (.type "type"))
    (hC_Undefined : PySem.W.hasDictIn K a_Undefined = true)
    (g_NothingToUndo : PySem.W.nsIn K mainGlobals "NothingToUndo" = some (some (.ref a_NothingToUndo)))
    (xL_NothingToUndo : K.lookup a_NothingToUndo = some (excClassObj nm_NothingToUndo q_NothingToUndo a_NothingToUndo N_NothingToUndo bs_NothingToUndo bm_NothingToUndo true sn_NothingToUndo sub_NothingToUndo ab_NothingToUndo col_NothingToUndo dd_NothingToUndo m0_NothingToUndo m1_NothingToUndo m2_NothingToUndo m3_NothingToUndo m5_NothingToUndo "ValueError.__new__"))
    (ve_NothingToUndo : PySem.HandSPX.refsVE bm_NothingToUndo = true)
    (sa_NothingToUndo : PySem.W.findIn K (.ref a_NothingToUndo) "__setattr__" = some (some (.builtin "object.__setattr__")))
    (ga_NothingToUndo : PySem.W.findIn K (.ref a_NothingToUndo) "__getattribute__" = some (some (.builtin "BaseException.__getattribute__")))
    (gg_NothingToUndo : PySem.W.findIn K (.ref a_NothingToUndo) "__getattr__" = some none)
    (no_NothingToUndo : PySem.W.findIn K (.ref a_NothingToUndo) "word" = some none)
    (in_NothingToUndo : PySem.W.findIn K (.ref a_NothingToUndo) "__init__" = some (some (.ref f_NothingToUndo_init)))
    (ti_NothingToUndo : PySem.W.typeIn K (.ref f_NothingToUndo_init) = some (.type "function"))
    (l_NothingToUndo_init : K.lookup f_NothingToUndo_init = some ⟨oc_NothingToUndo_init, od_NothingToUndo_init, .func (PySem.W.fnOf "__init__" "NothingToUndo.__init__" (defArgs s_NothingToUndo_init) (defBody s_NothingToUndo_init) (defScope s_NothingToUndo_init) .none kV_NothingToUndo_init dc_NothingToUndo_init pm_NothingToUndo_init an_NothingToUndo_init cd_NothingToUndo_init ct_NothingToUndo_init), sl_NothingToUndo_init⟩)
    (c_NothingToUndo_init : PySem.W.codeIn K cd_NothingToUndo_init "NothingToUndo.__init__" = true)
    (k_NothingToUndo_init : PySem.W.keepIn K (.ref f_NothingToUndo_init) = true)
    (kC_NothingToUndo : PySem.W.keepIn K (.ref a_NothingToUndo) = true)
    (eC_NothingToUndo : PySem.W.subIn K (.ref a_NothingToUndo) (.type "BaseException") = some true)
    (tC_NothingToUndo : PySem.W.typeIn K (.ref a_NothingToUndo) = some (.type "type"))
    (hC_NothingToUndo : PySem.W.hasDictIn K a_NothingToUndo = true)
    (n_ValueError_g : PySem.W.nsIn K mainGlobals "ValueError" = some none)
    (n_abs_g : PySem.W.nsIn K mainGlobals "abs" = some none)
    (n_int_g : PySem.W.nsIn K mainGlobals "int" = some none)
    (n_isinstance_g : PySem.W.nsIn K mainGlobals "isinstance" = some none)
    (n_len_g : PySem.W.nsIn K mainGlobals "len" = some none)
    (n_range_g : PySem.W.nsIn K mainGlobals "range" = some none)
    (n_str_g : PySem.W.nsIn K mainGlobals "str" = some none)
    (g_DutyError : PySem.W.nsIn K mainGlobals "DutyError" = some (some (.ref a_DutyError)))
    (hn_xx : PySem.W.specialIn K (.builtin "object.__class__") "__get__" = some (some (.builtin "getset_descriptor.__get__")))
    (ht_xx : PySem.W.takesIn K (.builtin "object.__class__") = some true)
    (ha_InvalidNumber : PySem.W.findIn K (.ref a_InvalidNumber) "__class__" = some (some (.builtin "object.__class__")))
    (hm_InvalidNumber : PySem.W.mroIn K a_InvalidNumber (.type "object") = some true)
    (sv_InvalidNumber : PySem.W.subIn K (.ref a_InvalidNumber) (.type "ValueError") = some true)
    (ha_InvalidTable : PySem.W.findIn K (.ref a_InvalidTable) "__class__" = some (some (.builtin "object.__class__")))
    (hm_InvalidTable : PySem.W.mroIn K a_InvalidTable (.type "object") = some true)
    (sv_InvalidTable : PySem.W.subIn K (.ref a_InvalidTable) (.type "ValueError") = some true)
    (ha_InvalidRow : PySem.W.findIn K (.ref a_InvalidRow) "__class__" = some (some (.builtin "object.__class__")))
    (hm_InvalidRow : PySem.W.mroIn K a_InvalidRow (.type "object") = some true)
    (sv_InvalidRow : PySem.W.subIn K (.ref a_InvalidRow) (.type "ValueError") = some true)
    (ha_InvalidRules : PySem.W.findIn K (.ref a_InvalidRules) "__class__" = some (some (.builtin "object.__class__")))
    (hm_InvalidRules : PySem.W.mroIn K a_InvalidRules (.type "object") = some true)
    (sv_InvalidRules : PySem.W.subIn K (.ref a_InvalidRules) (.type "ValueError") = some true)
    (ha_InvalidMachines : PySem.W.findIn K (.ref a_InvalidMachines) "__class__" = some (some (.builtin "object.__class__")))
    (hm_InvalidMachines : PySem.W.mroIn K a_InvalidMachines (.type "object") = some true)
    (sv_InvalidMachines : PySem.W.subIn K (.ref a_InvalidMachines) (.type "ValueError") = some true)
    (ha_InvalidWants : PySem.W.findIn K (.ref a_InvalidWants) "__class__" = some (some (.builtin "object.__class__")))
    (hm_InvalidWants : PySem.W.mroIn K a_InvalidWants (.type "object") = some true)
    (sv_InvalidWants : PySem.W.subIn K (.ref a_InvalidWants) (.type "ValueError") = some true)
    (ha_InvalidRota : PySem.W.findIn K (.ref a_InvalidRota) "__class__" = some (some (.builtin "object.__class__")))
    (hm_InvalidRota : PySem.W.mroIn K a_InvalidRota (.type "object") = some true)
    (sv_InvalidRota : PySem.W.subIn K (.ref a_InvalidRota) (.type "ValueError") = some true)
    (ha_InvalidDislikes : PySem.W.findIn K (.ref a_InvalidDislikes) "__class__" = some (some (.builtin "object.__class__")))
    (hm_InvalidDislikes : PySem.W.mroIn K a_InvalidDislikes (.type "object") = some true)
    (sv_InvalidDislikes : PySem.W.subIn K (.ref a_InvalidDislikes) (.type "ValueError") = some true)
    (ha_InvalidLoads : PySem.W.findIn K (.ref a_InvalidLoads) "__class__" = some (some (.builtin "object.__class__")))
    (hm_InvalidLoads : PySem.W.mroIn K a_InvalidLoads (.type "object") = some true)
    (sv_InvalidLoads : PySem.W.subIn K (.ref a_InvalidLoads) (.type "ValueError") = some true)
    (ha_InvalidFixed : PySem.W.findIn K (.ref a_InvalidFixed) "__class__" = some (some (.builtin "object.__class__")))
    (hm_InvalidFixed : PySem.W.mroIn K a_InvalidFixed (.type "object") = some true)
    (sv_InvalidFixed : PySem.W.subIn K (.ref a_InvalidFixed) (.type "ValueError") = some true)
    (ha_InvalidSkills : PySem.W.findIn K (.ref a_InvalidSkills) "__class__" = some (some (.builtin "object.__class__")))
    (hm_InvalidSkills : PySem.W.mroIn K a_InvalidSkills (.type "object") = some true)
    (sv_InvalidSkills : PySem.W.subIn K (.ref a_InvalidSkills) (.type "ValueError") = some true)
    (ha_InvalidPosts : PySem.W.findIn K (.ref a_InvalidPosts) "__class__" = some (some (.builtin "object.__class__")))
    (hm_InvalidPosts : PySem.W.mroIn K a_InvalidPosts (.type "object") = some true)
    (sv_InvalidPosts : PySem.W.subIn K (.ref a_InvalidPosts) (.type "ValueError") = some true)
    (ha_InvalidJobs : PySem.W.findIn K (.ref a_InvalidJobs) "__class__" = some (some (.builtin "object.__class__")))
    (hm_InvalidJobs : PySem.W.mroIn K a_InvalidJobs (.type "object") = some true)
    (sv_InvalidJobs : PySem.W.subIn K (.ref a_InvalidJobs) (.type "ValueError") = some true)
    (ha_InvalidPart : PySem.W.findIn K (.ref a_InvalidPart) "__class__" = some (some (.builtin "object.__class__")))
    (hm_InvalidPart : PySem.W.mroIn K a_InvalidPart (.type "object") = some true)
    (sv_InvalidPart : PySem.W.subIn K (.ref a_InvalidPart) (.type "ValueError") = some true)
    (ha_InvalidQuestion : PySem.W.findIn K (.ref a_InvalidQuestion) "__class__" = some (some (.builtin "object.__class__")))
    (hm_InvalidQuestion : PySem.W.mroIn K a_InvalidQuestion (.type "object") = some true)
    (sv_InvalidQuestion : PySem.W.subIn K (.ref a_InvalidQuestion) (.type "ValueError") = some true)
    (ha_InvalidClaim : PySem.W.findIn K (.ref a_InvalidClaim) "__class__" = some (some (.builtin "object.__class__")))
    (hm_InvalidClaim : PySem.W.mroIn K a_InvalidClaim (.type "object") = some true)
    (sv_InvalidClaim : PySem.W.subIn K (.ref a_InvalidClaim) (.type "ValueError") = some true)
    (ha_TooLarge : PySem.W.findIn K (.ref a_TooLarge) "__class__" = some (some (.builtin "object.__class__")))
    (hm_TooLarge : PySem.W.mroIn K a_TooLarge (.type "object") = some true)
    (sv_TooLarge : PySem.W.subIn K (.ref a_TooLarge) (.type "ValueError") = some true)
    (ha_Undefined : PySem.W.findIn K (.ref a_Undefined) "__class__" = some (some (.builtin "object.__class__")))
    (hm_Undefined : PySem.W.mroIn K a_Undefined (.type "object") = some true)
    (sv_Undefined : PySem.W.subIn K (.ref a_Undefined) (.type "ValueError") = some true)
    (ha_NothingToUndo : PySem.W.findIn K (.ref a_NothingToUndo) "__class__" = some (some (.builtin "object.__class__")))
    (hm_NothingToUndo : PySem.W.mroIn K a_NothingToUndo (.type "object") = some true)
    (sv_NothingToUndo : PySem.W.subIn K (.ref a_NothingToUndo) (.type "ValueError") = some true)
    (ic_InvalidNumber : PySem.W.isClsIn K a_InvalidNumber = true)
    (su_InvalidNumber_InvalidNumber : PySem.W.subIn K (.ref a_InvalidNumber) (.ref a_InvalidNumber) = some true)
    (su_InvalidTable_InvalidNumber : PySem.W.subIn K (.ref a_InvalidTable) (.ref a_InvalidNumber) = some false)
    (su_InvalidRow_InvalidNumber : PySem.W.subIn K (.ref a_InvalidRow) (.ref a_InvalidNumber) = some false)
    (su_InvalidRules_InvalidNumber : PySem.W.subIn K (.ref a_InvalidRules) (.ref a_InvalidNumber) = some false)
    (su_InvalidMachines_InvalidNumber : PySem.W.subIn K (.ref a_InvalidMachines) (.ref a_InvalidNumber) = some false)
    (su_InvalidWants_InvalidNumber : PySem.W.subIn K (.ref a_InvalidWants) (.ref a_InvalidNumber) = some false)
    (su_InvalidRota_InvalidNumber : PySem.W.subIn K (.ref a_InvalidRota) (.ref a_InvalidNumber) = some false)
    (su_InvalidDislikes_InvalidNumber : PySem.W.subIn K (.ref a_InvalidDislikes) (.ref a_InvalidNumber) = some false)
    (su_InvalidLoads_InvalidNumber : PySem.W.subIn K (.ref a_InvalidLoads) (.ref a_InvalidNumber) = some false)
    (su_InvalidFixed_InvalidNumber : PySem.W.subIn K (.ref a_InvalidFixed) (.ref a_InvalidNumber) = some false)
    (su_InvalidSkills_InvalidNumber : PySem.W.subIn K (.ref a_InvalidSkills) (.ref a_InvalidNumber) = some false)
    (su_InvalidPosts_InvalidNumber : PySem.W.subIn K (.ref a_InvalidPosts) (.ref a_InvalidNumber) = some false)
    (su_InvalidJobs_InvalidNumber : PySem.W.subIn K (.ref a_InvalidJobs) (.ref a_InvalidNumber) = some false)
    (su_InvalidPart_InvalidNumber : PySem.W.subIn K (.ref a_InvalidPart) (.ref a_InvalidNumber) = some false)
    (su_InvalidQuestion_InvalidNumber : PySem.W.subIn K (.ref a_InvalidQuestion) (.ref a_InvalidNumber) = some false)
    (su_InvalidClaim_InvalidNumber : PySem.W.subIn K (.ref a_InvalidClaim) (.ref a_InvalidNumber) = some false)
    (su_TooLarge_InvalidNumber : PySem.W.subIn K (.ref a_TooLarge) (.ref a_InvalidNumber) = some false)
    (su_Undefined_InvalidNumber : PySem.W.subIn K (.ref a_Undefined) (.ref a_InvalidNumber) = some false)
    (su_NothingToUndo_InvalidNumber : PySem.W.subIn K (.ref a_NothingToUndo) (.ref a_InvalidNumber) = some false)
    (ic_InvalidTable : PySem.W.isClsIn K a_InvalidTable = true)
    (su_InvalidNumber_InvalidTable : PySem.W.subIn K (.ref a_InvalidNumber) (.ref a_InvalidTable) = some false)
    (su_InvalidTable_InvalidTable : PySem.W.subIn K (.ref a_InvalidTable) (.ref a_InvalidTable) = some true)
    (su_InvalidRow_InvalidTable : PySem.W.subIn K (.ref a_InvalidRow) (.ref a_InvalidTable) = some false)
    (su_InvalidRules_InvalidTable : PySem.W.subIn K (.ref a_InvalidRules) (.ref a_InvalidTable) = some false)
    (su_InvalidMachines_InvalidTable : PySem.W.subIn K (.ref a_InvalidMachines) (.ref a_InvalidTable) = some false)
    (su_InvalidWants_InvalidTable : PySem.W.subIn K (.ref a_InvalidWants) (.ref a_InvalidTable) = some false)
    (su_InvalidRota_InvalidTable : PySem.W.subIn K (.ref a_InvalidRota) (.ref a_InvalidTable) = some false)
    (su_InvalidDislikes_InvalidTable : PySem.W.subIn K (.ref a_InvalidDislikes) (.ref a_InvalidTable) = some false)
    (su_InvalidLoads_InvalidTable : PySem.W.subIn K (.ref a_InvalidLoads) (.ref a_InvalidTable) = some false)
    (su_InvalidFixed_InvalidTable : PySem.W.subIn K (.ref a_InvalidFixed) (.ref a_InvalidTable) = some false)
    (su_InvalidSkills_InvalidTable : PySem.W.subIn K (.ref a_InvalidSkills) (.ref a_InvalidTable) = some false)
    (su_InvalidPosts_InvalidTable : PySem.W.subIn K (.ref a_InvalidPosts) (.ref a_InvalidTable) = some false)
    (su_InvalidJobs_InvalidTable : PySem.W.subIn K (.ref a_InvalidJobs) (.ref a_InvalidTable) = some false)
    (su_InvalidPart_InvalidTable : PySem.W.subIn K (.ref a_InvalidPart) (.ref a_InvalidTable) = some false)
    (su_InvalidQuestion_InvalidTable : PySem.W.subIn K (.ref a_InvalidQuestion) (.ref a_InvalidTable) = some false)
    (su_InvalidClaim_InvalidTable : PySem.W.subIn K (.ref a_InvalidClaim) (.ref a_InvalidTable) = some false)
    (su_TooLarge_InvalidTable : PySem.W.subIn K (.ref a_TooLarge) (.ref a_InvalidTable) = some false)
    (su_Undefined_InvalidTable : PySem.W.subIn K (.ref a_Undefined) (.ref a_InvalidTable) = some false)
    (su_NothingToUndo_InvalidTable : PySem.W.subIn K (.ref a_NothingToUndo) (.ref a_InvalidTable) = some false)
    (ic_InvalidRow : PySem.W.isClsIn K a_InvalidRow = true)
    (su_InvalidNumber_InvalidRow : PySem.W.subIn K (.ref a_InvalidNumber) (.ref a_InvalidRow) = some false)
    (su_InvalidTable_InvalidRow : PySem.W.subIn K (.ref a_InvalidTable) (.ref a_InvalidRow) = some false)
    (su_InvalidRow_InvalidRow : PySem.W.subIn K (.ref a_InvalidRow) (.ref a_InvalidRow) = some true)
    (su_InvalidRules_InvalidRow : PySem.W.subIn K (.ref a_InvalidRules) (.ref a_InvalidRow) = some false)
    (su_InvalidMachines_InvalidRow : PySem.W.subIn K (.ref a_InvalidMachines) (.ref a_InvalidRow) = some false)
    (su_InvalidWants_InvalidRow : PySem.W.subIn K (.ref a_InvalidWants) (.ref a_InvalidRow) = some false)
    (su_InvalidRota_InvalidRow : PySem.W.subIn K (.ref a_InvalidRota) (.ref a_InvalidRow) = some false)
    (su_InvalidDislikes_InvalidRow : PySem.W.subIn K (.ref a_InvalidDislikes) (.ref a_InvalidRow) = some false)
    (su_InvalidLoads_InvalidRow : PySem.W.subIn K (.ref a_InvalidLoads) (.ref a_InvalidRow) = some false)
    (su_InvalidFixed_InvalidRow : PySem.W.subIn K (.ref a_InvalidFixed) (.ref a_InvalidRow) = some false)
    (su_InvalidSkills_InvalidRow : PySem.W.subIn K (.ref a_InvalidSkills) (.ref a_InvalidRow) = some false)
    (su_InvalidPosts_InvalidRow : PySem.W.subIn K (.ref a_InvalidPosts) (.ref a_InvalidRow) = some false)
    (su_InvalidJobs_InvalidRow : PySem.W.subIn K (.ref a_InvalidJobs) (.ref a_InvalidRow) = some false)
    (su_InvalidPart_InvalidRow : PySem.W.subIn K (.ref a_InvalidPart) (.ref a_InvalidRow) = some false)
    (su_InvalidQuestion_InvalidRow : PySem.W.subIn K (.ref a_InvalidQuestion) (.ref a_InvalidRow) = some false)
    (su_InvalidClaim_InvalidRow : PySem.W.subIn K (.ref a_InvalidClaim) (.ref a_InvalidRow) = some false)
    (su_TooLarge_InvalidRow : PySem.W.subIn K (.ref a_TooLarge) (.ref a_InvalidRow) = some false)
    (su_Undefined_InvalidRow : PySem.W.subIn K (.ref a_Undefined) (.ref a_InvalidRow) = some false)
    (su_NothingToUndo_InvalidRow : PySem.W.subIn K (.ref a_NothingToUndo) (.ref a_InvalidRow) = some false)
    (ic_InvalidRules : PySem.W.isClsIn K a_InvalidRules = true)
    (su_InvalidNumber_InvalidRules : PySem.W.subIn K (.ref a_InvalidNumber) (.ref a_InvalidRules) = some false)
    (su_InvalidTable_InvalidRules : PySem.W.subIn K (.ref a_InvalidTable) (.ref a_InvalidRules) = some false)
    (su_InvalidRow_InvalidRules : PySem.W.subIn K (.ref a_InvalidRow) (.ref a_InvalidRules) = some false)
    (su_InvalidRules_InvalidRules : PySem.W.subIn K (.ref a_InvalidRules) (.ref a_InvalidRules) = some true)
    (su_InvalidMachines_InvalidRules : PySem.W.subIn K (.ref a_InvalidMachines) (.ref a_InvalidRules) = some false)
    (su_InvalidWants_InvalidRules : PySem.W.subIn K (.ref a_InvalidWants) (.ref a_InvalidRules) = some false)
    (su_InvalidRota_InvalidRules : PySem.W.subIn K (.ref a_InvalidRota) (.ref a_InvalidRules) = some false)
    (su_InvalidDislikes_InvalidRules : PySem.W.subIn K (.ref a_InvalidDislikes) (.ref a_InvalidRules) = some false)
    (su_InvalidLoads_InvalidRules : PySem.W.subIn K (.ref a_InvalidLoads) (.ref a_InvalidRules) = some false)
    (su_InvalidFixed_InvalidRules : PySem.W.subIn K (.ref a_InvalidFixed) (.ref a_InvalidRules) = some false)
    (su_InvalidSkills_InvalidRules : PySem.W.subIn K (.ref a_InvalidSkills) (.ref a_InvalidRules) = some false)
    (su_InvalidPosts_InvalidRules : PySem.W.subIn K (.ref a_InvalidPosts) (.ref a_InvalidRules) = some false)
    (su_InvalidJobs_InvalidRules : PySem.W.subIn K (.ref a_InvalidJobs) (.ref a_InvalidRules) = some false)
    (su_InvalidPart_InvalidRules : PySem.W.subIn K (.ref a_InvalidPart) (.ref a_InvalidRules) = some false)
    (su_InvalidQuestion_InvalidRules : PySem.W.subIn K (.ref a_InvalidQuestion) (.ref a_InvalidRules) = some false)
    (su_InvalidClaim_InvalidRules : PySem.W.subIn K (.ref a_InvalidClaim) (.ref a_InvalidRules) = some false)
    (su_TooLarge_InvalidRules : PySem.W.subIn K (.ref a_TooLarge) (.ref a_InvalidRules) = some false)
    (su_Undefined_InvalidRules : PySem.W.subIn K (.ref a_Undefined) (.ref a_InvalidRules) = some false)
    (su_NothingToUndo_InvalidRules : PySem.W.subIn K (.ref a_NothingToUndo) (.ref a_InvalidRules) = some false)
    (ic_InvalidMachines : PySem.W.isClsIn K a_InvalidMachines = true)
    (su_InvalidNumber_InvalidMachines : PySem.W.subIn K (.ref a_InvalidNumber) (.ref a_InvalidMachines) = some false)
    (su_InvalidTable_InvalidMachines : PySem.W.subIn K (.ref a_InvalidTable) (.ref a_InvalidMachines) = some false)
    (su_InvalidRow_InvalidMachines : PySem.W.subIn K (.ref a_InvalidRow) (.ref a_InvalidMachines) = some false)
    (su_InvalidRules_InvalidMachines : PySem.W.subIn K (.ref a_InvalidRules) (.ref a_InvalidMachines) = some false)
    (su_InvalidMachines_InvalidMachines : PySem.W.subIn K (.ref a_InvalidMachines) (.ref a_InvalidMachines) = some true)
    (su_InvalidWants_InvalidMachines : PySem.W.subIn K (.ref a_InvalidWants) (.ref a_InvalidMachines) = some false)
    (su_InvalidRota_InvalidMachines : PySem.W.subIn K (.ref a_InvalidRota) (.ref a_InvalidMachines) = some false)
    (su_InvalidDislikes_InvalidMachines : PySem.W.subIn K (.ref a_InvalidDislikes) (.ref a_InvalidMachines) = some false)
    (su_InvalidLoads_InvalidMachines : PySem.W.subIn K (.ref a_InvalidLoads) (.ref a_InvalidMachines) = some false)
    (su_InvalidFixed_InvalidMachines : PySem.W.subIn K (.ref a_InvalidFixed) (.ref a_InvalidMachines) = some false)
    (su_InvalidSkills_InvalidMachines : PySem.W.subIn K (.ref a_InvalidSkills) (.ref a_InvalidMachines) = some false)
    (su_InvalidPosts_InvalidMachines : PySem.W.subIn K (.ref a_InvalidPosts) (.ref a_InvalidMachines) = some false)
    (su_InvalidJobs_InvalidMachines : PySem.W.subIn K (.ref a_InvalidJobs) (.ref a_InvalidMachines) = some false)
    (su_InvalidPart_InvalidMachines : PySem.W.subIn K (.ref a_InvalidPart) (.ref a_InvalidMachines) = some false)
    (su_InvalidQuestion_InvalidMachines : PySem.W.subIn K (.ref a_InvalidQuestion) (.ref a_InvalidMachines) = some false)
    (su_InvalidClaim_InvalidMachines : PySem.W.subIn K (.ref a_InvalidClaim) (.ref a_InvalidMachines) = some false)
    (su_TooLarge_InvalidMachines : PySem.W.subIn K (.ref a_TooLarge) (.ref a_InvalidMachines) = some false)
    (su_Undefined_InvalidMachines : PySem.W.subIn K (.ref a_Undefined) (.ref a_InvalidMachines) = some false)
    (su_NothingToUndo_InvalidMachines : PySem.W.subIn K (.ref a_NothingToUndo) (.ref a_InvalidMachines) = some false)
    (ic_InvalidWants : PySem.W.isClsIn K a_InvalidWants = true)
    (su_InvalidNumber_InvalidWants : PySem.W.subIn K (.ref a_InvalidNumber) (.ref a_InvalidWants) = some false)
    (su_InvalidTable_InvalidWants : PySem.W.subIn K (.ref a_InvalidTable) (.ref a_InvalidWants) = some false)
    (su_InvalidRow_InvalidWants : PySem.W.subIn K (.ref a_InvalidRow) (.ref a_InvalidWants) = some false)
    (su_InvalidRules_InvalidWants : PySem.W.subIn K (.ref a_InvalidRules) (.ref a_InvalidWants) = some false)
    (su_InvalidMachines_InvalidWants : PySem.W.subIn K (.ref a_InvalidMachines) (.ref a_InvalidWants) = some false)
    (su_InvalidWants_InvalidWants : PySem.W.subIn K (.ref a_InvalidWants) (.ref a_InvalidWants) = some true)
    (su_InvalidRota_InvalidWants : PySem.W.subIn K (.ref a_InvalidRota) (.ref a_InvalidWants) = some false)
    (su_InvalidDislikes_InvalidWants : PySem.W.subIn K (.ref a_InvalidDislikes) (.ref a_InvalidWants) = some false)
    (su_InvalidLoads_InvalidWants : PySem.W.subIn K (.ref a_InvalidLoads) (.ref a_InvalidWants) = some false)
    (su_InvalidFixed_InvalidWants : PySem.W.subIn K (.ref a_InvalidFixed) (.ref a_InvalidWants) = some false)
    (su_InvalidSkills_InvalidWants : PySem.W.subIn K (.ref a_InvalidSkills) (.ref a_InvalidWants) = some false)
    (su_InvalidPosts_InvalidWants : PySem.W.subIn K (.ref a_InvalidPosts) (.ref a_InvalidWants) = some false)
    (su_InvalidJobs_InvalidWants : PySem.W.subIn K (.ref a_InvalidJobs) (.ref a_InvalidWants) = some false)
    (su_InvalidPart_InvalidWants : PySem.W.subIn K (.ref a_InvalidPart) (.ref a_InvalidWants) = some false)
    (su_InvalidQuestion_InvalidWants : PySem.W.subIn K (.ref a_InvalidQuestion) (.ref a_InvalidWants) = some false)
    (su_InvalidClaim_InvalidWants : PySem.W.subIn K (.ref a_InvalidClaim) (.ref a_InvalidWants) = some false)
    (su_TooLarge_InvalidWants : PySem.W.subIn K (.ref a_TooLarge) (.ref a_InvalidWants) = some false)
    (su_Undefined_InvalidWants : PySem.W.subIn K (.ref a_Undefined) (.ref a_InvalidWants) = some false)
    (su_NothingToUndo_InvalidWants : PySem.W.subIn K (.ref a_NothingToUndo) (.ref a_InvalidWants) = some false)
    (ic_InvalidRota : PySem.W.isClsIn K a_InvalidRota = true)
    (su_InvalidNumber_InvalidRota : PySem.W.subIn K (.ref a_InvalidNumber) (.ref a_InvalidRota) = some false)
    (su_InvalidTable_InvalidRota : PySem.W.subIn K (.ref a_InvalidTable) (.ref a_InvalidRota) = some false)
    (su_InvalidRow_InvalidRota : PySem.W.subIn K (.ref a_InvalidRow) (.ref a_InvalidRota) = some false)
    (su_InvalidRules_InvalidRota : PySem.W.subIn K (.ref a_InvalidRules) (.ref a_InvalidRota) = some false)
    (su_InvalidMachines_InvalidRota : PySem.W.subIn K (.ref a_InvalidMachines) (.ref a_InvalidRota) = some false)
    (su_InvalidWants_InvalidRota : PySem.W.subIn K (.ref a_InvalidWants) (.ref a_InvalidRota) = some false)
    (su_InvalidRota_InvalidRota : PySem.W.subIn K (.ref a_InvalidRota) (.ref a_InvalidRota) = some true)
    (su_InvalidDislikes_InvalidRota : PySem.W.subIn K (.ref a_InvalidDislikes) (.ref a_InvalidRota) = some false)
    (su_InvalidLoads_InvalidRota : PySem.W.subIn K (.ref a_InvalidLoads) (.ref a_InvalidRota) = some false)
    (su_InvalidFixed_InvalidRota : PySem.W.subIn K (.ref a_InvalidFixed) (.ref a_InvalidRota) = some false)
    (su_InvalidSkills_InvalidRota : PySem.W.subIn K (.ref a_InvalidSkills) (.ref a_InvalidRota) = some false)
    (su_InvalidPosts_InvalidRota : PySem.W.subIn K (.ref a_InvalidPosts) (.ref a_InvalidRota) = some false)
    (su_InvalidJobs_InvalidRota : PySem.W.subIn K (.ref a_InvalidJobs) (.ref a_InvalidRota) = some false)
    (su_InvalidPart_InvalidRota : PySem.W.subIn K (.ref a_InvalidPart) (.ref a_InvalidRota) = some false)
    (su_InvalidQuestion_InvalidRota : PySem.W.subIn K (.ref a_InvalidQuestion) (.ref a_InvalidRota) = some false)
    (su_InvalidClaim_InvalidRota : PySem.W.subIn K (.ref a_InvalidClaim) (.ref a_InvalidRota) = some false)
    (su_TooLarge_InvalidRota : PySem.W.subIn K (.ref a_TooLarge) (.ref a_InvalidRota) = some false)
    (su_Undefined_InvalidRota : PySem.W.subIn K (.ref a_Undefined) (.ref a_InvalidRota) = some false)
    (su_NothingToUndo_InvalidRota : PySem.W.subIn K (.ref a_NothingToUndo) (.ref a_InvalidRota) = some false)
    (ic_InvalidDislikes : PySem.W.isClsIn K a_InvalidDislikes = true)
    (su_InvalidNumber_InvalidDislikes : PySem.W.subIn K (.ref a_InvalidNumber) (.ref a_InvalidDislikes) = some false)
    (su_InvalidTable_InvalidDislikes : PySem.W.subIn K (.ref a_InvalidTable) (.ref a_InvalidDislikes) = some false)
    (su_InvalidRow_InvalidDislikes : PySem.W.subIn K (.ref a_InvalidRow) (.ref a_InvalidDislikes) = some false)
    (su_InvalidRules_InvalidDislikes : PySem.W.subIn K (.ref a_InvalidRules) (.ref a_InvalidDislikes) = some false)
    (su_InvalidMachines_InvalidDislikes : PySem.W.subIn K (.ref a_InvalidMachines) (.ref a_InvalidDislikes) = some false)
    (su_InvalidWants_InvalidDislikes : PySem.W.subIn K (.ref a_InvalidWants) (.ref a_InvalidDislikes) = some false)
    (su_InvalidRota_InvalidDislikes : PySem.W.subIn K (.ref a_InvalidRota) (.ref a_InvalidDislikes) = some false)
    (su_InvalidDislikes_InvalidDislikes : PySem.W.subIn K (.ref a_InvalidDislikes) (.ref a_InvalidDislikes) = some true)
    (su_InvalidLoads_InvalidDislikes : PySem.W.subIn K (.ref a_InvalidLoads) (.ref a_InvalidDislikes) = some false)
    (su_InvalidFixed_InvalidDislikes : PySem.W.subIn K (.ref a_InvalidFixed) (.ref a_InvalidDislikes) = some false)
    (su_InvalidSkills_InvalidDislikes : PySem.W.subIn K (.ref a_InvalidSkills) (.ref a_InvalidDislikes) = some false)
    (su_InvalidPosts_InvalidDislikes : PySem.W.subIn K (.ref a_InvalidPosts) (.ref a_InvalidDislikes) = some false)
    (su_InvalidJobs_InvalidDislikes : PySem.W.subIn K (.ref a_InvalidJobs) (.ref a_InvalidDislikes) = some false)
    (su_InvalidPart_InvalidDislikes : PySem.W.subIn K (.ref a_InvalidPart) (.ref a_InvalidDislikes) = some false)
    (su_InvalidQuestion_InvalidDislikes : PySem.W.subIn K (.ref a_InvalidQuestion) (.ref a_InvalidDislikes) = some false)
    (su_InvalidClaim_InvalidDislikes : PySem.W.subIn K (.ref a_InvalidClaim) (.ref a_InvalidDislikes) = some false)
    (su_TooLarge_InvalidDislikes : PySem.W.subIn K (.ref a_TooLarge) (.ref a_InvalidDislikes) = some false)
    (su_Undefined_InvalidDislikes : PySem.W.subIn K (.ref a_Undefined) (.ref a_InvalidDislikes) = some false)
    (su_NothingToUndo_InvalidDislikes : PySem.W.subIn K (.ref a_NothingToUndo) (.ref a_InvalidDislikes) = some false)
    (ic_InvalidLoads : PySem.W.isClsIn K a_InvalidLoads = true)
    (su_InvalidNumber_InvalidLoads : PySem.W.subIn K (.ref a_InvalidNumber) (.ref a_InvalidLoads) = some false)
    (su_InvalidTable_InvalidLoads : PySem.W.subIn K (.ref a_InvalidTable) (.ref a_InvalidLoads) = some false)
    (su_InvalidRow_InvalidLoads : PySem.W.subIn K (.ref a_InvalidRow) (.ref a_InvalidLoads) = some false)
    (su_InvalidRules_InvalidLoads : PySem.W.subIn K (.ref a_InvalidRules) (.ref a_InvalidLoads) = some false)
    (su_InvalidMachines_InvalidLoads : PySem.W.subIn K (.ref a_InvalidMachines) (.ref a_InvalidLoads) = some false)
    (su_InvalidWants_InvalidLoads : PySem.W.subIn K (.ref a_InvalidWants) (.ref a_InvalidLoads) = some false)
    (su_InvalidRota_InvalidLoads : PySem.W.subIn K (.ref a_InvalidRota) (.ref a_InvalidLoads) = some false)
    (su_InvalidDislikes_InvalidLoads : PySem.W.subIn K (.ref a_InvalidDislikes) (.ref a_InvalidLoads) = some false)
    (su_InvalidLoads_InvalidLoads : PySem.W.subIn K (.ref a_InvalidLoads) (.ref a_InvalidLoads) = some true)
    (su_InvalidFixed_InvalidLoads : PySem.W.subIn K (.ref a_InvalidFixed) (.ref a_InvalidLoads) = some false)
    (su_InvalidSkills_InvalidLoads : PySem.W.subIn K (.ref a_InvalidSkills) (.ref a_InvalidLoads) = some false)
    (su_InvalidPosts_InvalidLoads : PySem.W.subIn K (.ref a_InvalidPosts) (.ref a_InvalidLoads) = some false)
    (su_InvalidJobs_InvalidLoads : PySem.W.subIn K (.ref a_InvalidJobs) (.ref a_InvalidLoads) = some false)
    (su_InvalidPart_InvalidLoads : PySem.W.subIn K (.ref a_InvalidPart) (.ref a_InvalidLoads) = some false)
    (su_InvalidQuestion_InvalidLoads : PySem.W.subIn K (.ref a_InvalidQuestion) (.ref a_InvalidLoads) = some false)
    (su_InvalidClaim_InvalidLoads : PySem.W.subIn K (.ref a_InvalidClaim) (.ref a_InvalidLoads) = some false)
    (su_TooLarge_InvalidLoads : PySem.W.subIn K (.ref a_TooLarge) (.ref a_InvalidLoads) = some false)
    (su_Undefined_InvalidLoads : PySem.W.subIn K (.ref a_Undefined) (.ref a_InvalidLoads) = some false)
    (su_NothingToUndo_InvalidLoads : PySem.W.subIn K (.ref a_NothingToUndo) (.ref a_InvalidLoads) = some false)
    (ic_InvalidFixed : PySem.W.isClsIn K a_InvalidFixed = true)
    (su_InvalidNumber_InvalidFixed : PySem.W.subIn K (.ref a_InvalidNumber) (.ref a_InvalidFixed) = some false)
    (su_InvalidTable_InvalidFixed : PySem.W.subIn K (.ref a_InvalidTable) (.ref a_InvalidFixed) = some false)
    (su_InvalidRow_InvalidFixed : PySem.W.subIn K (.ref a_InvalidRow) (.ref a_InvalidFixed) = some false)
    (su_InvalidRules_InvalidFixed : PySem.W.subIn K (.ref a_InvalidRules) (.ref a_InvalidFixed) = some false)
    (su_InvalidMachines_InvalidFixed : PySem.W.subIn K (.ref a_InvalidMachines) (.ref a_InvalidFixed) = some false)
    (su_InvalidWants_InvalidFixed : PySem.W.subIn K (.ref a_InvalidWants) (.ref a_InvalidFixed) = some false)
    (su_InvalidRota_InvalidFixed : PySem.W.subIn K (.ref a_InvalidRota) (.ref a_InvalidFixed) = some false)
    (su_InvalidDislikes_InvalidFixed : PySem.W.subIn K (.ref a_InvalidDislikes) (.ref a_InvalidFixed) = some false)
    (su_InvalidLoads_InvalidFixed : PySem.W.subIn K (.ref a_InvalidLoads) (.ref a_InvalidFixed) = some false)
    (su_InvalidFixed_InvalidFixed : PySem.W.subIn K (.ref a_InvalidFixed) (.ref a_InvalidFixed) = some true)
    (su_InvalidSkills_InvalidFixed : PySem.W.subIn K (.ref a_InvalidSkills) (.ref a_InvalidFixed) = some false)
    (su_InvalidPosts_InvalidFixed : PySem.W.subIn K (.ref a_InvalidPosts) (.ref a_InvalidFixed) = some false)
    (su_InvalidJobs_InvalidFixed : PySem.W.subIn K (.ref a_InvalidJobs) (.ref a_InvalidFixed) = some false)
    (su_InvalidPart_InvalidFixed : PySem.W.subIn K (.ref a_InvalidPart) (.ref a_InvalidFixed) = some false)
    (su_InvalidQuestion_InvalidFixed : PySem.W.subIn K (.ref a_InvalidQuestion) (.ref a_InvalidFixed) = some false)
    (su_InvalidClaim_InvalidFixed : PySem.W.subIn K (.ref a_InvalidClaim) (.ref a_InvalidFixed) = some false)
    (su_TooLarge_InvalidFixed : PySem.W.subIn K (.ref a_TooLarge) (.ref a_InvalidFixed) = some false)
    (su_Undefined_InvalidFixed : PySem.W.subIn K (.ref a_Undefined) (.ref a_InvalidFixed) = some false)
    (su_NothingToUndo_InvalidFixed : PySem.W.subIn K (.ref a_NothingToUndo) (.ref a_InvalidFixed) = some false)
    (ic_InvalidSkills : PySem.W.isClsIn K a_InvalidSkills = true)
    (su_InvalidNumber_InvalidSkills : PySem.W.subIn K (.ref a_InvalidNumber) (.ref a_InvalidSkills) = some false)
    (su_InvalidTable_InvalidSkills : PySem.W.subIn K (.ref a_InvalidTable) (.ref a_InvalidSkills) = some false)
    (su_InvalidRow_InvalidSkills : PySem.W.subIn K (.ref a_InvalidRow) (.ref a_InvalidSkills) = some false)
    (su_InvalidRules_InvalidSkills : PySem.W.subIn K (.ref a_InvalidRules) (.ref a_InvalidSkills) = some false)
    (su_InvalidMachines_InvalidSkills : PySem.W.subIn K (.ref a_InvalidMachines) (.ref a_InvalidSkills) = some false)
    (su_InvalidWants_InvalidSkills : PySem.W.subIn K (.ref a_InvalidWants) (.ref a_InvalidSkills) = some false)
    (su_InvalidRota_InvalidSkills : PySem.W.subIn K (.ref a_InvalidRota) (.ref a_InvalidSkills) = some false)
    (su_InvalidDislikes_InvalidSkills : PySem.W.subIn K (.ref a_InvalidDislikes) (.ref a_InvalidSkills) = some false)
    (su_InvalidLoads_InvalidSkills : PySem.W.subIn K (.ref a_InvalidLoads) (.ref a_InvalidSkills) = some false)
    (su_InvalidFixed_InvalidSkills : PySem.W.subIn K (.ref a_InvalidFixed) (.ref a_InvalidSkills) = some false)
    (su_InvalidSkills_InvalidSkills : PySem.W.subIn K (.ref a_InvalidSkills) (.ref a_InvalidSkills) = some true)
    (su_InvalidPosts_InvalidSkills : PySem.W.subIn K (.ref a_InvalidPosts) (.ref a_InvalidSkills) = some false)
    (su_InvalidJobs_InvalidSkills : PySem.W.subIn K (.ref a_InvalidJobs) (.ref a_InvalidSkills) = some false)
    (su_InvalidPart_InvalidSkills : PySem.W.subIn K (.ref a_InvalidPart) (.ref a_InvalidSkills) = some false)
    (su_InvalidQuestion_InvalidSkills : PySem.W.subIn K (.ref a_InvalidQuestion) (.ref a_InvalidSkills) = some false)
    (su_InvalidClaim_InvalidSkills : PySem.W.subIn K (.ref a_InvalidClaim) (.ref a_InvalidSkills) = some false)
    (su_TooLarge_InvalidSkills : PySem.W.subIn K (.ref a_TooLarge) (.ref a_InvalidSkills) = some false)
    (su_Undefined_InvalidSkills : PySem.W.subIn K (.ref a_Undefined) (.ref a_InvalidSkills) = some false)
    (su_NothingToUndo_InvalidSkills : PySem.W.subIn K (.ref a_NothingToUndo) (.ref a_InvalidSkills) = some false)
    (ic_InvalidPosts : PySem.W.isClsIn K a_InvalidPosts = true)
    (su_InvalidNumber_InvalidPosts : PySem.W.subIn K (.ref a_InvalidNumber) (.ref a_InvalidPosts) = some false)
    (su_InvalidTable_InvalidPosts : PySem.W.subIn K (.ref a_InvalidTable) (.ref a_InvalidPosts) = some false)
    (su_InvalidRow_InvalidPosts : PySem.W.subIn K (.ref a_InvalidRow) (.ref a_InvalidPosts) = some false)
    (su_InvalidRules_InvalidPosts : PySem.W.subIn K (.ref a_InvalidRules) (.ref a_InvalidPosts) = some false)
    (su_InvalidMachines_InvalidPosts : PySem.W.subIn K (.ref a_InvalidMachines) (.ref a_InvalidPosts) = some false)
    (su_InvalidWants_InvalidPosts : PySem.W.subIn K (.ref a_InvalidWants) (.ref a_InvalidPosts) = some false)
    (su_InvalidRota_InvalidPosts : PySem.W.subIn K (.ref a_InvalidRota) (.ref a_InvalidPosts) = some false)
    (su_InvalidDislikes_InvalidPosts : PySem.W.subIn K (.ref a_InvalidDislikes) (.ref a_InvalidPosts) = some false)
    (su_InvalidLoads_InvalidPosts : PySem.W.subIn K (.ref a_InvalidLoads) (.ref a_InvalidPosts) = some false)
    (su_InvalidFixed_InvalidPosts : PySem.W.subIn K (.ref a_InvalidFixed) (.ref a_InvalidPosts) = some false)
    (su_InvalidSkills_InvalidPosts : PySem.W.subIn K (.ref a_InvalidSkills) (.ref a_InvalidPosts) = some false)
    (su_InvalidPosts_InvalidPosts : PySem.W.subIn K (.ref a_InvalidPosts) (.ref a_InvalidPosts) = some true)
    (su_InvalidJobs_InvalidPosts : PySem.W.subIn K (.ref a_InvalidJobs) (.ref a_InvalidPosts) = some false)
    (su_InvalidPart_InvalidPosts : PySem.W.subIn K (.ref a_InvalidPart) (.ref a_InvalidPosts) = some false)
    (su_InvalidQuestion_InvalidPosts : PySem.W.subIn K (.ref a_InvalidQuestion) (.ref a_InvalidPosts) = some false)
    (su_InvalidClaim_InvalidPosts : PySem.W.subIn K (.ref a_InvalidClaim) (.ref a_InvalidPosts) = some false)
    (su_TooLarge_InvalidPosts : PySem.W.subIn K (.ref a_TooLarge) (.ref a_InvalidPosts) = some false)
    (su_Undefined_InvalidPosts : PySem.W.subIn K (.ref a_Undefined) (.ref a_InvalidPosts) = some false)
    (su_NothingToUndo_InvalidPosts : PySem.W.subIn K (.ref a_NothingToUndo) (.ref a_InvalidPosts) = some false)
    (ic_InvalidJobs : PySem.W.isClsIn K a_InvalidJobs = true)
    (su_InvalidNumber_InvalidJobs : PySem.W.subIn K (.ref a_InvalidNumber) (.ref a_InvalidJobs) = some false)
    (su_InvalidTable_InvalidJobs : PySem.W.subIn K (.ref a_InvalidTable) (.ref a_InvalidJobs) = some false)
    (su_InvalidRow_InvalidJobs : PySem.W.subIn K (.ref a_InvalidRow) (.ref a_InvalidJobs) = some false)
    (su_InvalidRules_InvalidJobs : PySem.W.subIn K (.ref a_InvalidRules) (.ref a_InvalidJobs) = some false)
    (su_InvalidMachines_InvalidJobs : PySem.W.subIn K (.ref a_InvalidMachines) (.ref a_InvalidJobs) = some false)
    (su_InvalidWants_InvalidJobs : PySem.W.subIn K (.ref a_InvalidWants) (.ref a_InvalidJobs) = some false)
    (su_InvalidRota_InvalidJobs : PySem.W.subIn K (.ref a_InvalidRota) (.ref a_InvalidJobs) = some false)
    (su_InvalidDislikes_InvalidJobs : PySem.W.subIn K (.ref a_InvalidDislikes) (.ref a_InvalidJobs) = some false)
    (su_InvalidLoads_InvalidJobs : PySem.W.subIn K (.ref a_InvalidLoads) (.ref a_InvalidJobs) = some false)
    (su_InvalidFixed_InvalidJobs : PySem.W.subIn K (.ref a_InvalidFixed) (.ref a_InvalidJobs) = some false)
    (su_InvalidSkills_InvalidJobs : PySem.W.subIn K (.ref a_InvalidSkills) (.ref a_InvalidJobs) = some false)
    (su_InvalidPosts_InvalidJobs : PySem.W.subIn K (.ref a_InvalidPosts) (.ref a_InvalidJobs) = some false)
    (su_InvalidJobs_InvalidJobs : PySem.W.subIn K (.ref a_InvalidJobs) (.ref a_InvalidJobs) = some true)
    (su_InvalidPart_InvalidJobs : PySem.W.subIn K (.ref a_InvalidPart) (.ref a_InvalidJobs) = some false)
    (su_InvalidQuestion_InvalidJobs : PySem.W.subIn K (.ref a_InvalidQuestion) (.ref a_InvalidJobs) = some false)
    (su_InvalidClaim_InvalidJobs : PySem.W.subIn K (.ref a_InvalidClaim) (.ref a_InvalidJobs) = some false)
    (su_TooLarge_InvalidJobs : PySem.W.subIn K (.ref a_TooLarge) (.ref a_InvalidJobs) = some false)
    (su_Undefined_InvalidJobs : PySem.W.subIn K (.ref a_Undefined) (.ref a_InvalidJobs) = some false)
    (su_NothingToUndo_InvalidJobs : PySem.W.subIn K (.ref a_NothingToUndo) (.ref a_InvalidJobs) = some false)
    (ic_InvalidPart : PySem.W.isClsIn K a_InvalidPart = true)
    (su_InvalidNumber_InvalidPart : PySem.W.subIn K (.ref a_InvalidNumber) (.ref a_InvalidPart) = some false)
    (su_InvalidTable_InvalidPart : PySem.W.subIn K (.ref a_InvalidTable) (.ref a_InvalidPart) = some false)
    (su_InvalidRow_InvalidPart : PySem.W.subIn K (.ref a_InvalidRow) (.ref a_InvalidPart) = some false)
    (su_InvalidRules_InvalidPart : PySem.W.subIn K (.ref a_InvalidRules) (.ref a_InvalidPart) = some false)
    (su_InvalidMachines_InvalidPart : PySem.W.subIn K (.ref a_InvalidMachines) (.ref a_InvalidPart) = some false)
    (su_InvalidWants_InvalidPart : PySem.W.subIn K (.ref a_InvalidWants) (.ref a_InvalidPart) = some false)
    (su_InvalidRota_InvalidPart : PySem.W.subIn K (.ref a_InvalidRota) (.ref a_InvalidPart) = some false)
    (su_InvalidDislikes_InvalidPart : PySem.W.subIn K (.ref a_InvalidDislikes) (.ref a_InvalidPart) = some false)
    (su_InvalidLoads_InvalidPart : PySem.W.subIn K (.ref a_InvalidLoads) (.ref a_InvalidPart) = some false)
    (su_InvalidFixed_InvalidPart : PySem.W.subIn K (.ref a_InvalidFixed) (.ref a_InvalidPart) = some false)
    (su_InvalidSkills_InvalidPart : PySem.W.subIn K (.ref a_InvalidSkills) (.ref a_InvalidPart) = some false)
    (su_InvalidPosts_InvalidPart : PySem.W.subIn K (.ref a_InvalidPosts) (.ref a_InvalidPart) = some false)
    (su_InvalidJobs_InvalidPart : PySem.W.subIn K (.ref a_InvalidJobs) (.ref a_InvalidPart) = some false)
    (su_InvalidPart_InvalidPart : PySem.W.subIn K (.ref a_InvalidPart) (.ref a_InvalidPart) = some true)
    (su_InvalidQuestion_InvalidPart : PySem.W.subIn K (.ref a_InvalidQuestion) (.ref a_InvalidPart) = some false)
    (su_InvalidClaim_InvalidPart : PySem.W.subIn K (.ref a_InvalidClaim) (.ref a_InvalidPart) = some false)
    (su_TooLarge_InvalidPart : PySem.W.subIn K (.ref a_TooLarge) (.ref a_InvalidPart) = some false)
    (su_Undefined_InvalidPart : PySem.W.subIn K (.ref a_Undefined) (.ref a_InvalidPart) = some false)
    (su_NothingToUndo_InvalidPart : PySem.W.subIn K (.ref a_NothingToUndo) (.ref a_InvalidPart) = some false)
    (ic_InvalidQuestion : PySem.W.isClsIn K a_InvalidQuestion = true)
    (su_InvalidNumber_InvalidQuestion : PySem.W.subIn K (.ref a_InvalidNumber) (.ref a_InvalidQuestion) = some false)
    (su_InvalidTable_InvalidQuestion : PySem.W.subIn K (.ref a_InvalidTable) (.ref a_InvalidQuestion) = some false)
    (su_InvalidRow_InvalidQuestion : PySem.W.subIn K (.ref a_InvalidRow) (.ref a_InvalidQuestion) = some false)
    (su_InvalidRules_InvalidQuestion : PySem.W.subIn K (.ref a_InvalidRules) (.ref a_InvalidQuestion) = some false)
    (su_InvalidMachines_InvalidQuestion : PySem.W.subIn K (.ref a_InvalidMachines) (.ref a_InvalidQuestion) = some false)
    (su_InvalidWants_InvalidQuestion : PySem.W.subIn K (.ref a_InvalidWants) (.ref a_InvalidQuestion) = some false)
    (su_InvalidRota_InvalidQuestion : PySem.W.subIn K (.ref a_InvalidRota) (.ref a_InvalidQuestion) = some false)
    (su_InvalidDislikes_InvalidQuestion : PySem.W.subIn K (.ref a_InvalidDislikes) (.ref a_InvalidQuestion) = some false)
    (su_InvalidLoads_InvalidQuestion : PySem.W.subIn K (.ref a_InvalidLoads) (.ref a_InvalidQuestion) = some false)
    (su_InvalidFixed_InvalidQuestion : PySem.W.subIn K (.ref a_InvalidFixed) (.ref a_InvalidQuestion) = some false)
    (su_InvalidSkills_InvalidQuestion : PySem.W.subIn K (.ref a_InvalidSkills) (.ref a_InvalidQuestion) = some false)
    (su_InvalidPosts_InvalidQuestion : PySem.W.subIn K (.ref a_InvalidPosts) (.ref a_InvalidQuestion) = some false)
    (su_InvalidJobs_InvalidQuestion : PySem.W.subIn K (.ref a_InvalidJobs) (.ref a_InvalidQuestion) = some false)
    (su_InvalidPart_InvalidQuestion : PySem.W.subIn K (.ref a_InvalidPart) (.ref a_InvalidQuestion) = some false)
    (su_InvalidQuestion_InvalidQuestion : PySem.W.subIn K (.ref a_InvalidQuestion) (.ref a_InvalidQuestion) = some true)
    (su_InvalidClaim_InvalidQuestion : PySem.W.subIn K (.ref a_InvalidClaim) (.ref a_InvalidQuestion) = some false)
    (su_TooLarge_InvalidQuestion : PySem.W.subIn K (.ref a_TooLarge) (.ref a_InvalidQuestion) = some false)
    (su_Undefined_InvalidQuestion : PySem.W.subIn K (.ref a_Undefined) (.ref a_InvalidQuestion) = some false)
    (su_NothingToUndo_InvalidQuestion : PySem.W.subIn K (.ref a_NothingToUndo) (.ref a_InvalidQuestion) = some false)
    (ic_InvalidClaim : PySem.W.isClsIn K a_InvalidClaim = true)
    (su_InvalidNumber_InvalidClaim : PySem.W.subIn K (.ref a_InvalidNumber) (.ref a_InvalidClaim) = some false)
    (su_InvalidTable_InvalidClaim : PySem.W.subIn K (.ref a_InvalidTable) (.ref a_InvalidClaim) = some false)
    (su_InvalidRow_InvalidClaim : PySem.W.subIn K (.ref a_InvalidRow) (.ref a_InvalidClaim) = some false)
    (su_InvalidRules_InvalidClaim : PySem.W.subIn K (.ref a_InvalidRules) (.ref a_InvalidClaim) = some false)
    (su_InvalidMachines_InvalidClaim : PySem.W.subIn K (.ref a_InvalidMachines) (.ref a_InvalidClaim) = some false)
    (su_InvalidWants_InvalidClaim : PySem.W.subIn K (.ref a_InvalidWants) (.ref a_InvalidClaim) = some false)
    (su_InvalidRota_InvalidClaim : PySem.W.subIn K (.ref a_InvalidRota) (.ref a_InvalidClaim) = some false)
    (su_InvalidDislikes_InvalidClaim : PySem.W.subIn K (.ref a_InvalidDislikes) (.ref a_InvalidClaim) = some false)
    (su_InvalidLoads_InvalidClaim : PySem.W.subIn K (.ref a_InvalidLoads) (.ref a_InvalidClaim) = some false)
    (su_InvalidFixed_InvalidClaim : PySem.W.subIn K (.ref a_InvalidFixed) (.ref a_InvalidClaim) = some false)
    (su_InvalidSkills_InvalidClaim : PySem.W.subIn K (.ref a_InvalidSkills) (.ref a_InvalidClaim) = some false)
    (su_InvalidPosts_InvalidClaim : PySem.W.subIn K (.ref a_InvalidPosts) (.ref a_InvalidClaim) = some false)
    (su_InvalidJobs_InvalidClaim : PySem.W.subIn K (.ref a_InvalidJobs) (.ref a_InvalidClaim) = some false)
    (su_InvalidPart_InvalidClaim : PySem.W.subIn K (.ref a_InvalidPart) (.ref a_InvalidClaim) = some false)
    (su_InvalidQuestion_InvalidClaim : PySem.W.subIn K (.ref a_InvalidQuestion) (.ref a_InvalidClaim) = some false)
    (su_InvalidClaim_InvalidClaim : PySem.W.subIn K (.ref a_InvalidClaim) (.ref a_InvalidClaim) = some true)
    (su_TooLarge_InvalidClaim : PySem.W.subIn K (.ref a_TooLarge) (.ref a_InvalidClaim) = some false)
    (su_Undefined_InvalidClaim : PySem.W.subIn K (.ref a_Undefined) (.ref a_InvalidClaim) = some false)
    (su_NothingToUndo_InvalidClaim : PySem.W.subIn K (.ref a_NothingToUndo) (.ref a_InvalidClaim) = some false)
    (ic_TooLarge : PySem.W.isClsIn K a_TooLarge = true)
    (su_InvalidNumber_TooLarge : PySem.W.subIn K (.ref a_InvalidNumber) (.ref a_TooLarge) = some false)
    (su_InvalidTable_TooLarge : PySem.W.subIn K (.ref a_InvalidTable) (.ref a_TooLarge) = some false)
    (su_InvalidRow_TooLarge : PySem.W.subIn K (.ref a_InvalidRow) (.ref a_TooLarge) = some false)
    (su_InvalidRules_TooLarge : PySem.W.subIn K (.ref a_InvalidRules) (.ref a_TooLarge) = some false)
    (su_InvalidMachines_TooLarge : PySem.W.subIn K (.ref a_InvalidMachines) (.ref a_TooLarge) = some false)
    (su_InvalidWants_TooLarge : PySem.W.subIn K (.ref a_InvalidWants) (.ref a_TooLarge) = some false)
    (su_InvalidRota_TooLarge : PySem.W.subIn K (.ref a_InvalidRota) (.ref a_TooLarge) = some false)
    (su_InvalidDislikes_TooLarge : PySem.W.subIn K (.ref a_InvalidDislikes) (.ref a_TooLarge) = some false)
    (su_InvalidLoads_TooLarge : PySem.W.subIn K (.ref a_InvalidLoads) (.ref a_TooLarge) = some false)
    (su_InvalidFixed_TooLarge : PySem.W.subIn K (.ref a_InvalidFixed) (.ref a_TooLarge) = some false)
    (su_InvalidSkills_TooLarge : PySem.W.subIn K (.ref a_InvalidSkills) (.ref a_TooLarge) = some false)
    (su_InvalidPosts_TooLarge : PySem.W.subIn K (.ref a_InvalidPosts) (.ref a_TooLarge) = some false)
    (su_InvalidJobs_TooLarge : PySem.W.subIn K (.ref a_InvalidJobs) (.ref a_TooLarge) = some false)
    (su_InvalidPart_TooLarge : PySem.W.subIn K (.ref a_InvalidPart) (.ref a_TooLarge) = some false)
    (su_InvalidQuestion_TooLarge : PySem.W.subIn K (.ref a_InvalidQuestion) (.ref a_TooLarge) = some false)
    (su_InvalidClaim_TooLarge : PySem.W.subIn K (.ref a_InvalidClaim) (.ref a_TooLarge) = some false)
    (su_TooLarge_TooLarge : PySem.W.subIn K (.ref a_TooLarge) (.ref a_TooLarge) = some true)
    (su_Undefined_TooLarge : PySem.W.subIn K (.ref a_Undefined) (.ref a_TooLarge) = some false)
    (su_NothingToUndo_TooLarge : PySem.W.subIn K (.ref a_NothingToUndo) (.ref a_TooLarge) = some false)
    (ic_Undefined : PySem.W.isClsIn K a_Undefined = true)
    (su_InvalidNumber_Undefined : PySem.W.subIn K (.ref a_InvalidNumber) (.ref a_Undefined) = some false)
    (su_InvalidTable_Undefined : PySem.W.subIn K (.ref a_InvalidTable) (.ref a_Undefined) = some false)
    (su_InvalidRow_Undefined : PySem.W.subIn K (.ref a_InvalidRow) (.ref a_Undefined) = some false)
    (su_InvalidRules_Undefined : PySem.W.subIn K (.ref a_InvalidRules) (.ref a_Undefined) = some false)
    (su_InvalidMachines_Undefined : PySem.W.subIn K (.ref a_InvalidMachines) (.ref a_Undefined) = some false)
    (su_InvalidWants_Undefined : PySem.W.subIn K (.ref a_InvalidWants) (.ref a_Undefined) = some false)
    (su_InvalidRota_Undefined : PySem.W.subIn K (.ref a_InvalidRota) (.ref a_Undefined) = some false)
    (su_InvalidDislikes_Undefined : PySem.W.subIn K (.ref a_InvalidDislikes) (.ref a_Undefined) = some false)
    (su_InvalidLoads_Undefined : PySem.W.subIn K (.ref a_InvalidLoads) (.ref a_Undefined) = some false)
    (su_InvalidFixed_Undefined : PySem.W.subIn K (.ref a_InvalidFixed) (.ref a_Undefined) = some false)
    (su_InvalidSkills_Undefined : PySem.W.subIn K (.ref a_InvalidSkills) (.ref a_Undefined) = some false)
    (su_InvalidPosts_Undefined : PySem.W.subIn K (.ref a_InvalidPosts) (.ref a_Undefined) = some false)
    (su_InvalidJobs_Undefined : PySem.W.subIn K (.ref a_InvalidJobs) (.ref a_Undefined) = some false)
    (su_InvalidPart_Undefined : PySem.W.subIn K (.ref a_InvalidPart) (.ref a_Undefined) = some false)
    (su_InvalidQuestion_Undefined : PySem.W.subIn K (.ref a_InvalidQuestion) (.ref a_Undefined) = some false)
    (su_InvalidClaim_Undefined : PySem.W.subIn K (.ref a_InvalidClaim) (.ref a_Undefined) = some false)
    (su_TooLarge_Undefined : PySem.W.subIn K (.ref a_TooLarge) (.ref a_Undefined) = some false)
    (su_Undefined_Undefined : PySem.W.subIn K (.ref a_Undefined) (.ref a_Undefined) = some true)
    (su_NothingToUndo_Undefined : PySem.W.subIn K (.ref a_NothingToUndo) (.ref a_Undefined) = some false)
    (ic_NothingToUndo : PySem.W.isClsIn K a_NothingToUndo = true)
    (su_InvalidNumber_NothingToUndo : PySem.W.subIn K (.ref a_InvalidNumber) (.ref a_NothingToUndo) = some false)
    (su_InvalidTable_NothingToUndo : PySem.W.subIn K (.ref a_InvalidTable) (.ref a_NothingToUndo) = some false)
    (su_InvalidRow_NothingToUndo : PySem.W.subIn K (.ref a_InvalidRow) (.ref a_NothingToUndo) = some false)
    (su_InvalidRules_NothingToUndo : PySem.W.subIn K (.ref a_InvalidRules) (.ref a_NothingToUndo) = some false)
    (su_InvalidMachines_NothingToUndo : PySem.W.subIn K (.ref a_InvalidMachines) (.ref a_NothingToUndo) = some false)
    (su_InvalidWants_NothingToUndo : PySem.W.subIn K (.ref a_InvalidWants) (.ref a_NothingToUndo) = some false)
    (su_InvalidRota_NothingToUndo : PySem.W.subIn K (.ref a_InvalidRota) (.ref a_NothingToUndo) = some false)
    (su_InvalidDislikes_NothingToUndo : PySem.W.subIn K (.ref a_InvalidDislikes) (.ref a_NothingToUndo) = some false)
    (su_InvalidLoads_NothingToUndo : PySem.W.subIn K (.ref a_InvalidLoads) (.ref a_NothingToUndo) = some false)
    (su_InvalidFixed_NothingToUndo : PySem.W.subIn K (.ref a_InvalidFixed) (.ref a_NothingToUndo) = some false)
    (su_InvalidSkills_NothingToUndo : PySem.W.subIn K (.ref a_InvalidSkills) (.ref a_NothingToUndo) = some false)
    (su_InvalidPosts_NothingToUndo : PySem.W.subIn K (.ref a_InvalidPosts) (.ref a_NothingToUndo) = some false)
    (su_InvalidJobs_NothingToUndo : PySem.W.subIn K (.ref a_InvalidJobs) (.ref a_NothingToUndo) = some false)
    (su_InvalidPart_NothingToUndo : PySem.W.subIn K (.ref a_InvalidPart) (.ref a_NothingToUndo) = some false)
    (su_InvalidQuestion_NothingToUndo : PySem.W.subIn K (.ref a_InvalidQuestion) (.ref a_NothingToUndo) = some false)
    (su_InvalidClaim_NothingToUndo : PySem.W.subIn K (.ref a_InvalidClaim) (.ref a_NothingToUndo) = some false)
    (su_TooLarge_NothingToUndo : PySem.W.subIn K (.ref a_TooLarge) (.ref a_NothingToUndo) = some false)
    (su_Undefined_NothingToUndo : PySem.W.subIn K (.ref a_Undefined) (.ref a_NothingToUndo) = some false)
    (su_NothingToUndo_NothingToUndo : PySem.W.subIn K (.ref a_NothingToUndo) (.ref a_NothingToUndo) = some true)
    (ic_DutyError : PySem.W.isClsIn K a_DutyError = true)
    (tC_DutyError : PySem.W.typeIn K (.ref a_DutyError) = some (.type "type"))
    (su_DutyError_DutyError : PySem.W.subIn K (.ref a_DutyError) (.ref a_DutyError) = some true)
    (su_InvalidNumber_DutyError : PySem.W.subIn K (.ref a_InvalidNumber) (.ref a_DutyError) = some true)
    (su_InvalidTable_DutyError : PySem.W.subIn K (.ref a_InvalidTable) (.ref a_DutyError) = some true)
    (su_InvalidRow_DutyError : PySem.W.subIn K (.ref a_InvalidRow) (.ref a_DutyError) = some true)
    (su_InvalidRules_DutyError : PySem.W.subIn K (.ref a_InvalidRules) (.ref a_DutyError) = some true)
    (su_InvalidMachines_DutyError : PySem.W.subIn K (.ref a_InvalidMachines) (.ref a_DutyError) = some true)
    (su_InvalidWants_DutyError : PySem.W.subIn K (.ref a_InvalidWants) (.ref a_DutyError) = some true)
    (su_InvalidRota_DutyError : PySem.W.subIn K (.ref a_InvalidRota) (.ref a_DutyError) = some true)
    (su_InvalidDislikes_DutyError : PySem.W.subIn K (.ref a_InvalidDislikes) (.ref a_DutyError) = some true)
    (su_InvalidLoads_DutyError : PySem.W.subIn K (.ref a_InvalidLoads) (.ref a_DutyError) = some true)
    (su_InvalidFixed_DutyError : PySem.W.subIn K (.ref a_InvalidFixed) (.ref a_DutyError) = some true)
    (su_InvalidSkills_DutyError : PySem.W.subIn K (.ref a_InvalidSkills) (.ref a_DutyError) = some true)
    (su_InvalidPosts_DutyError : PySem.W.subIn K (.ref a_InvalidPosts) (.ref a_DutyError) = some true)
    (su_InvalidJobs_DutyError : PySem.W.subIn K (.ref a_InvalidJobs) (.ref a_DutyError) = some true)
    (su_InvalidPart_DutyError : PySem.W.subIn K (.ref a_InvalidPart) (.ref a_DutyError) = some true)
    (su_InvalidQuestion_DutyError : PySem.W.subIn K (.ref a_InvalidQuestion) (.ref a_DutyError) = some true)
    (su_InvalidClaim_DutyError : PySem.W.subIn K (.ref a_InvalidClaim) (.ref a_DutyError) = some true)
    (su_TooLarge_DutyError : PySem.W.subIn K (.ref a_TooLarge) (.ref a_DutyError) = some true)
    (su_Undefined_DutyError : PySem.W.subIn K (.ref a_Undefined) (.ref a_DutyError) = some true)
    (su_NothingToUndo_DutyError : PySem.W.subIn K (.ref a_NothingToUndo) (.ref a_DutyError) = some true)
    : ∃ fd : FuncData, (∀ (s : Shared) (u : Value), BindsTo s fd ⟨[u], []⟩ [("script", u)]) ∧ ∀ base : Heap, K.In base → base.Ns mainGlobals mg → FnOk P w K mg base (L2.CX P w) 4 fa fd ["script"] (spOf ⟨K, mg, none⟩ 1 M_law) := by
  have e := hfa.symm.trans (PySem.W.mg_of X G a_law_g)
  cases e
  have F_law_box := fun_mk (st := s_law_box) l_law_box c_law_box k_law_box
  have F_law_take := fun_mk (st := s_law_take) l_law_take c_law_take k_law_take
  have F_law_pick := fun_mk (st := s_law_pick) l_law_pick c_law_pick k_law_pick
  have F_law_ones := fun_mk (st := s_law_ones) l_law_ones c_law_ones k_law_ones
  have F_law_kinds := fun_mk (st := s_law_kinds) l_law_kinds c_law_kinds k_law_kinds
  have F_law := fun_mk (st := s_law) l_law c_law k_law
  have F_InvalidNumber_init := fun_mk (st := s_InvalidNumber_init) l_InvalidNumber_init c_InvalidNumber_init k_InvalidNumber_init
  have F_InvalidTable_init := fun_mk (st := s_InvalidTable_init) l_InvalidTable_init c_InvalidTable_init k_InvalidTable_init
  have F_InvalidRow_init := fun_mk (st := s_InvalidRow_init) l_InvalidRow_init c_InvalidRow_init k_InvalidRow_init
  have F_InvalidRules_init := fun_mk (st := s_InvalidRules_init) l_InvalidRules_init c_InvalidRules_init k_InvalidRules_init
  have F_InvalidMachines_init := fun_mk (st := s_InvalidMachines_init) l_InvalidMachines_init c_InvalidMachines_init k_InvalidMachines_init
  have F_InvalidWants_init := fun_mk (st := s_InvalidWants_init) l_InvalidWants_init c_InvalidWants_init k_InvalidWants_init
  have F_InvalidRota_init := fun_mk (st := s_InvalidRota_init) l_InvalidRota_init c_InvalidRota_init k_InvalidRota_init
  have F_InvalidDislikes_init := fun_mk (st := s_InvalidDislikes_init) l_InvalidDislikes_init c_InvalidDislikes_init k_InvalidDislikes_init
  have F_InvalidLoads_init := fun_mk (st := s_InvalidLoads_init) l_InvalidLoads_init c_InvalidLoads_init k_InvalidLoads_init
  have F_InvalidFixed_init := fun_mk (st := s_InvalidFixed_init) l_InvalidFixed_init c_InvalidFixed_init k_InvalidFixed_init
  have F_InvalidSkills_init := fun_mk (st := s_InvalidSkills_init) l_InvalidSkills_init c_InvalidSkills_init k_InvalidSkills_init
  have F_InvalidPosts_init := fun_mk (st := s_InvalidPosts_init) l_InvalidPosts_init c_InvalidPosts_init k_InvalidPosts_init
  have F_InvalidJobs_init := fun_mk (st := s_InvalidJobs_init) l_InvalidJobs_init c_InvalidJobs_init k_InvalidJobs_init
  have F_InvalidPart_init := fun_mk (st := s_InvalidPart_init) l_InvalidPart_init c_InvalidPart_init k_InvalidPart_init
  have F_InvalidQuestion_init := fun_mk (st := s_InvalidQuestion_init) l_InvalidQuestion_init c_InvalidQuestion_init k_InvalidQuestion_init
  have F_InvalidClaim_init := fun_mk (st := s_InvalidClaim_init) l_InvalidClaim_init c_InvalidClaim_init k_InvalidClaim_init
  have F_TooLarge_init := fun_mk (st := s_TooLarge_init) l_TooLarge_init c_TooLarge_init k_TooLarge_init
  have F_Undefined_init := fun_mk (st := s_Undefined_init) l_Undefined_init c_Undefined_init k_Undefined_init
  have F_NothingToUndo_init := fun_mk (st := s_NothingToUndo_init) l_NothingToUndo_init c_NothingToUndo_init k_NothingToUndo_init
  have xc_InvalidNumber : ExcC K a_InvalidNumber := ⟨ga_InvalidNumber, gg_InvalidNumber, eC_InvalidNumber, hC_InvalidNumber, ha_InvalidNumber, hn_xx, ht_xx, hm_InvalidNumber⟩
  have xc_InvalidTable : ExcC K a_InvalidTable := ⟨ga_InvalidTable, gg_InvalidTable, eC_InvalidTable, hC_InvalidTable, ha_InvalidTable, hn_xx, ht_xx, hm_InvalidTable⟩
  have xc_InvalidRow : ExcC K a_InvalidRow := ⟨ga_InvalidRow, gg_InvalidRow, eC_InvalidRow, hC_InvalidRow, ha_InvalidRow, hn_xx, ht_xx, hm_InvalidRow⟩
  have xc_InvalidRules : ExcC K a_InvalidRules := ⟨ga_InvalidRules, gg_InvalidRules, eC_InvalidRules, hC_InvalidRules, ha_InvalidRules, hn_xx, ht_xx, hm_InvalidRules⟩
  have xc_InvalidMachines : ExcC K a_InvalidMachines := ⟨ga_InvalidMachines, gg_InvalidMachines, eC_InvalidMachines, hC_InvalidMachines, ha_InvalidMachines, hn_xx, ht_xx, hm_InvalidMachines⟩
  have xc_InvalidWants : ExcC K a_InvalidWants := ⟨ga_InvalidWants, gg_InvalidWants, eC_InvalidWants, hC_InvalidWants, ha_InvalidWants, hn_xx, ht_xx, hm_InvalidWants⟩
  have xc_InvalidRota : ExcC K a_InvalidRota := ⟨ga_InvalidRota, gg_InvalidRota, eC_InvalidRota, hC_InvalidRota, ha_InvalidRota, hn_xx, ht_xx, hm_InvalidRota⟩
  have xc_InvalidDislikes : ExcC K a_InvalidDislikes := ⟨ga_InvalidDislikes, gg_InvalidDislikes, eC_InvalidDislikes, hC_InvalidDislikes, ha_InvalidDislikes, hn_xx, ht_xx, hm_InvalidDislikes⟩
  have xc_InvalidLoads : ExcC K a_InvalidLoads := ⟨ga_InvalidLoads, gg_InvalidLoads, eC_InvalidLoads, hC_InvalidLoads, ha_InvalidLoads, hn_xx, ht_xx, hm_InvalidLoads⟩
  have xc_InvalidFixed : ExcC K a_InvalidFixed := ⟨ga_InvalidFixed, gg_InvalidFixed, eC_InvalidFixed, hC_InvalidFixed, ha_InvalidFixed, hn_xx, ht_xx, hm_InvalidFixed⟩
  have xc_InvalidSkills : ExcC K a_InvalidSkills := ⟨ga_InvalidSkills, gg_InvalidSkills, eC_InvalidSkills, hC_InvalidSkills, ha_InvalidSkills, hn_xx, ht_xx, hm_InvalidSkills⟩
  have xc_InvalidPosts : ExcC K a_InvalidPosts := ⟨ga_InvalidPosts, gg_InvalidPosts, eC_InvalidPosts, hC_InvalidPosts, ha_InvalidPosts, hn_xx, ht_xx, hm_InvalidPosts⟩
  have xc_InvalidJobs : ExcC K a_InvalidJobs := ⟨ga_InvalidJobs, gg_InvalidJobs, eC_InvalidJobs, hC_InvalidJobs, ha_InvalidJobs, hn_xx, ht_xx, hm_InvalidJobs⟩
  have xc_InvalidPart : ExcC K a_InvalidPart := ⟨ga_InvalidPart, gg_InvalidPart, eC_InvalidPart, hC_InvalidPart, ha_InvalidPart, hn_xx, ht_xx, hm_InvalidPart⟩
  have xc_InvalidQuestion : ExcC K a_InvalidQuestion := ⟨ga_InvalidQuestion, gg_InvalidQuestion, eC_InvalidQuestion, hC_InvalidQuestion, ha_InvalidQuestion, hn_xx, ht_xx, hm_InvalidQuestion⟩
  have xc_InvalidClaim : ExcC K a_InvalidClaim := ⟨ga_InvalidClaim, gg_InvalidClaim, eC_InvalidClaim, hC_InvalidClaim, ha_InvalidClaim, hn_xx, ht_xx, hm_InvalidClaim⟩
  have xc_TooLarge : ExcC K a_TooLarge := ⟨ga_TooLarge, gg_TooLarge, eC_TooLarge, hC_TooLarge, ha_TooLarge, hn_xx, ht_xx, hm_TooLarge⟩
  have xc_Undefined : ExcC K a_Undefined := ⟨ga_Undefined, gg_Undefined, eC_Undefined, hC_Undefined, ha_Undefined, hn_xx, ht_xx, hm_Undefined⟩
  have xc_NothingToUndo : ExcC K a_NothingToUndo := ⟨ga_NothingToUndo, gg_NothingToUndo, eC_NothingToUndo, hC_NothingToUndo, ha_NothingToUndo, hn_xx, ht_xx, hm_NothingToUndo⟩
  let T : Tx K mg := {
    f_law_box := f_law_box
    fd_law_box := _
    F_law_box := F_law_box
    b_law_box := F_law_box.binds (ps := ["script", "k"]) fun _ _ _ _ _ _ us hl => match us, hl with | [_, _], _ => rfl
    m_law_box := PySem.W.mg_of X G a_law_box_g
    f_law_take := f_law_take
    fd_law_take := _
    F_law_take := F_law_take
    b_law_take := F_law_take.binds (ps := ["box", "many"]) fun _ _ _ _ _ _ us hl => match us, hl with | [_, _], _ => rfl
    m_law_take := PySem.W.mg_of X G a_law_take_g
    f_law_pick := f_law_pick
    fd_law_pick := _
    F_law_pick := F_law_pick
    b_law_pick := F_law_pick.binds (ps := ["box", "some"]) fun _ _ _ _ _ _ us hl => match us, hl with | [_, _], _ => rfl
    m_law_pick := PySem.W.mg_of X G a_law_pick_g
    f_law_ones := f_law_ones
    fd_law_ones := _
    F_law_ones := F_law_ones
    b_law_ones := F_law_ones.binds (ps := ["v"]) fun _ _ _ _ _ _ us hl => match us, hl with | [_], _ => rfl
    m_law_ones := PySem.W.mg_of X G a_law_ones_g
    f_law_kinds := f_law_kinds
    fd_law_kinds := _
    F_law_kinds := F_law_kinds
    b_law_kinds := F_law_kinds.binds (ps := ["e"]) fun _ _ _ _ _ _ us hl => match us, hl with | [_], _ => rfl
    m_law_kinds := PySem.W.mg_of X G a_law_kinds_g
    f_law := fa
    fd_law := _
    F_law := F_law
    b_law := F_law.binds (ps := ["script"]) fun _ _ _ _ _ _ us hl => match us, hl with | [_], _ => rfl
    m_law := PySem.W.mg_of X G a_law_g
    a_InvalidNumber := a_InvalidNumber
    m_InvalidNumber := PySem.W.mg_of X G g_InvalidNumber
    f_InvalidNumber_init := f_InvalidNumber_init
    fd_InvalidNumber_init := _
    F_InvalidNumber_init := F_InvalidNumber_init
    b_InvalidNumber_init := F_InvalidNumber_init.binds (ps := ["self", "value"]) fun _ _ _ _ _ _ us hl => match us, hl with | [_, _], _ => rfl
    o_InvalidNumber := ⟨⟨_, _, _, _, _, _, _, _, _, _, _, _, _, _, _, xL_InvalidNumber, ve_InvalidNumber⟩, sa_InvalidNumber, eC_InvalidNumber, tC_InvalidNumber, kC_InvalidNumber⟩
    in_InvalidNumber := in_InvalidNumber
    ti_InvalidNumber := ti_InvalidNumber
    x_InvalidNumber_no := no_InvalidNumber
    x_InvalidNumber_xf := ⟨ga_InvalidNumber, gg_InvalidNumber, eC_InvalidNumber, hC_InvalidNumber⟩
    a_InvalidTable := a_InvalidTable
    m_InvalidTable := PySem.W.mg_of X G g_InvalidTable
    f_InvalidTable_init := f_InvalidTable_init
    fd_InvalidTable_init := _
    F_InvalidTable_init := F_InvalidTable_init
    b_InvalidTable_init := F_InvalidTable_init.binds (ps := ["self", "value"]) fun _ _ _ _ _ _ us hl => match us, hl with | [_, _], _ => rfl
    o_InvalidTable := ⟨⟨_, _, _, _, _, _, _, _, _, _, _, _, _, _, _, xL_InvalidTable, ve_InvalidTable⟩, sa_InvalidTable, eC_InvalidTable, tC_InvalidTable, kC_InvalidTable⟩
    in_InvalidTable := in_InvalidTable
    ti_InvalidTable := ti_InvalidTable
    x_InvalidTable_no := no_InvalidTable
    x_InvalidTable_xf := ⟨ga_InvalidTable, gg_InvalidTable, eC_InvalidTable, hC_InvalidTable⟩
    a_InvalidRow := a_InvalidRow
    m_InvalidRow := PySem.W.mg_of X G g_InvalidRow
    f_InvalidRow_init := f_InvalidRow_init
    fd_InvalidRow_init := _
    F_InvalidRow_init := F_InvalidRow_init
    b_InvalidRow_init := F_InvalidRow_init.binds (ps := ["self", "value"]) fun _ _ _ _ _ _ us hl => match us, hl with | [_, _], _ => rfl
    o_InvalidRow := ⟨⟨_, _, _, _, _, _, _, _, _, _, _, _, _, _, _, xL_InvalidRow, ve_InvalidRow⟩, sa_InvalidRow, eC_InvalidRow, tC_InvalidRow, kC_InvalidRow⟩
    in_InvalidRow := in_InvalidRow
    ti_InvalidRow := ti_InvalidRow
    x_InvalidRow_no := no_InvalidRow
    x_InvalidRow_xf := ⟨ga_InvalidRow, gg_InvalidRow, eC_InvalidRow, hC_InvalidRow⟩
    a_InvalidRules := a_InvalidRules
    m_InvalidRules := PySem.W.mg_of X G g_InvalidRules
    f_InvalidRules_init := f_InvalidRules_init
    fd_InvalidRules_init := _
    F_InvalidRules_init := F_InvalidRules_init
    b_InvalidRules_init := F_InvalidRules_init.binds (ps := ["self", "value"]) fun _ _ _ _ _ _ us hl => match us, hl with | [_, _], _ => rfl
    o_InvalidRules := ⟨⟨_, _, _, _, _, _, _, _, _, _, _, _, _, _, _, xL_InvalidRules, ve_InvalidRules⟩, sa_InvalidRules, eC_InvalidRules, tC_InvalidRules, kC_InvalidRules⟩
    in_InvalidRules := in_InvalidRules
    ti_InvalidRules := ti_InvalidRules
    x_InvalidRules_no := no_InvalidRules
    x_InvalidRules_xf := ⟨ga_InvalidRules, gg_InvalidRules, eC_InvalidRules, hC_InvalidRules⟩
    a_InvalidMachines := a_InvalidMachines
    m_InvalidMachines := PySem.W.mg_of X G g_InvalidMachines
    f_InvalidMachines_init := f_InvalidMachines_init
    fd_InvalidMachines_init := _
    F_InvalidMachines_init := F_InvalidMachines_init
    b_InvalidMachines_init := F_InvalidMachines_init.binds (ps := ["self", "value"]) fun _ _ _ _ _ _ us hl => match us, hl with | [_, _], _ => rfl
    o_InvalidMachines := ⟨⟨_, _, _, _, _, _, _, _, _, _, _, _, _, _, _, xL_InvalidMachines, ve_InvalidMachines⟩, sa_InvalidMachines, eC_InvalidMachines, tC_InvalidMachines, kC_InvalidMachines⟩
    in_InvalidMachines := in_InvalidMachines
    ti_InvalidMachines := ti_InvalidMachines
    x_InvalidMachines_no := no_InvalidMachines
    x_InvalidMachines_xf := ⟨ga_InvalidMachines, gg_InvalidMachines, eC_InvalidMachines, hC_InvalidMachines⟩
    a_InvalidWants := a_InvalidWants
    m_InvalidWants := PySem.W.mg_of X G g_InvalidWants
    f_InvalidWants_init := f_InvalidWants_init
    fd_InvalidWants_init := _
    F_InvalidWants_init := F_InvalidWants_init
    b_InvalidWants_init := F_InvalidWants_init.binds (ps := ["self", "value"]) fun _ _ _ _ _ _ us hl => match us, hl with | [_, _], _ => rfl
    o_InvalidWants := ⟨⟨_, _, _, _, _, _, _, _, _, _, _, _, _, _, _, xL_InvalidWants, ve_InvalidWants⟩, sa_InvalidWants, eC_InvalidWants, tC_InvalidWants, kC_InvalidWants⟩
    in_InvalidWants := in_InvalidWants
    ti_InvalidWants := ti_InvalidWants
    x_InvalidWants_no := no_InvalidWants
    x_InvalidWants_xf := ⟨ga_InvalidWants, gg_InvalidWants, eC_InvalidWants, hC_InvalidWants⟩
    a_InvalidRota := a_InvalidRota
    m_InvalidRota := PySem.W.mg_of X G g_InvalidRota
    f_InvalidRota_init := f_InvalidRota_init
    fd_InvalidRota_init := _
    F_InvalidRota_init := F_InvalidRota_init
    b_InvalidRota_init := F_InvalidRota_init.binds (ps := ["self", "value"]) fun _ _ _ _ _ _ us hl => match us, hl with | [_, _], _ => rfl
    o_InvalidRota := ⟨⟨_, _, _, _, _, _, _, _, _, _, _, _, _, _, _, xL_InvalidRota, ve_InvalidRota⟩, sa_InvalidRota, eC_InvalidRota, tC_InvalidRota, kC_InvalidRota⟩
    in_InvalidRota := in_InvalidRota
    ti_InvalidRota := ti_InvalidRota
    x_InvalidRota_no := no_InvalidRota
    x_InvalidRota_xf := ⟨ga_InvalidRota, gg_InvalidRota, eC_InvalidRota, hC_InvalidRota⟩
    a_InvalidDislikes := a_InvalidDislikes
    m_InvalidDislikes := PySem.W.mg_of X G g_InvalidDislikes
    f_InvalidDislikes_init := f_InvalidDislikes_init
    fd_InvalidDislikes_init := _
    F_InvalidDislikes_init := F_InvalidDislikes_init
    b_InvalidDislikes_init := F_InvalidDislikes_init.binds (ps := ["self", "value"]) fun _ _ _ _ _ _ us hl => match us, hl with | [_, _], _ => rfl
    o_InvalidDislikes := ⟨⟨_, _, _, _, _, _, _, _, _, _, _, _, _, _, _, xL_InvalidDislikes, ve_InvalidDislikes⟩, sa_InvalidDislikes, eC_InvalidDislikes, tC_InvalidDislikes, kC_InvalidDislikes⟩
    in_InvalidDislikes := in_InvalidDislikes
    ti_InvalidDislikes := ti_InvalidDislikes
    x_InvalidDislikes_no := no_InvalidDislikes
    x_InvalidDislikes_xf := ⟨ga_InvalidDislikes, gg_InvalidDislikes, eC_InvalidDislikes, hC_InvalidDislikes⟩
    a_InvalidLoads := a_InvalidLoads
    m_InvalidLoads := PySem.W.mg_of X G g_InvalidLoads
    f_InvalidLoads_init := f_InvalidLoads_init
    fd_InvalidLoads_init := _
    F_InvalidLoads_init := F_InvalidLoads_init
    b_InvalidLoads_init := F_InvalidLoads_init.binds (ps := ["self", "value"]) fun _ _ _ _ _ _ us hl => match us, hl with | [_, _], _ => rfl
    o_InvalidLoads := ⟨⟨_, _, _, _, _, _, _, _, _, _, _, _, _, _, _, xL_InvalidLoads, ve_InvalidLoads⟩, sa_InvalidLoads, eC_InvalidLoads, tC_InvalidLoads, kC_InvalidLoads⟩
    in_InvalidLoads := in_InvalidLoads
    ti_InvalidLoads := ti_InvalidLoads
    x_InvalidLoads_no := no_InvalidLoads
    x_InvalidLoads_xf := ⟨ga_InvalidLoads, gg_InvalidLoads, eC_InvalidLoads, hC_InvalidLoads⟩
    a_InvalidFixed := a_InvalidFixed
    m_InvalidFixed := PySem.W.mg_of X G g_InvalidFixed
    f_InvalidFixed_init := f_InvalidFixed_init
    fd_InvalidFixed_init := _
    F_InvalidFixed_init := F_InvalidFixed_init
    b_InvalidFixed_init := F_InvalidFixed_init.binds (ps := ["self", "value"]) fun _ _ _ _ _ _ us hl => match us, hl with | [_, _], _ => rfl
    o_InvalidFixed := ⟨⟨_, _, _, _, _, _, _, _, _, _, _, _, _, _, _, xL_InvalidFixed, ve_InvalidFixed⟩, sa_InvalidFixed, eC_InvalidFixed, tC_InvalidFixed, kC_InvalidFixed⟩
    in_InvalidFixed := in_InvalidFixed
    ti_InvalidFixed := ti_InvalidFixed
    x_InvalidFixed_no := no_InvalidFixed
    x_InvalidFixed_xf := ⟨ga_InvalidFixed, gg_InvalidFixed, eC_InvalidFixed, hC_InvalidFixed⟩
    a_InvalidSkills := a_InvalidSkills
    m_InvalidSkills := PySem.W.mg_of X G g_InvalidSkills
    f_InvalidSkills_init := f_InvalidSkills_init
    fd_InvalidSkills_init := _
    F_InvalidSkills_init := F_InvalidSkills_init
    b_InvalidSkills_init := F_InvalidSkills_init.binds (ps := ["self", "value"]) fun _ _ _ _ _ _ us hl => match us, hl with | [_, _], _ => rfl
    o_InvalidSkills := ⟨⟨_, _, _, _, _, _, _, _, _, _, _, _, _, _, _, xL_InvalidSkills, ve_InvalidSkills⟩, sa_InvalidSkills, eC_InvalidSkills, tC_InvalidSkills, kC_InvalidSkills⟩
    in_InvalidSkills := in_InvalidSkills
    ti_InvalidSkills := ti_InvalidSkills
    x_InvalidSkills_no := no_InvalidSkills
    x_InvalidSkills_xf := ⟨ga_InvalidSkills, gg_InvalidSkills, eC_InvalidSkills, hC_InvalidSkills⟩
    a_InvalidPosts := a_InvalidPosts
    m_InvalidPosts := PySem.W.mg_of X G g_InvalidPosts
    f_InvalidPosts_init := f_InvalidPosts_init
    fd_InvalidPosts_init := _
    F_InvalidPosts_init := F_InvalidPosts_init
    b_InvalidPosts_init := F_InvalidPosts_init.binds (ps := ["self", "value"]) fun _ _ _ _ _ _ us hl => match us, hl with | [_, _], _ => rfl
    o_InvalidPosts := ⟨⟨_, _, _, _, _, _, _, _, _, _, _, _, _, _, _, xL_InvalidPosts, ve_InvalidPosts⟩, sa_InvalidPosts, eC_InvalidPosts, tC_InvalidPosts, kC_InvalidPosts⟩
    in_InvalidPosts := in_InvalidPosts
    ti_InvalidPosts := ti_InvalidPosts
    x_InvalidPosts_no := no_InvalidPosts
    x_InvalidPosts_xf := ⟨ga_InvalidPosts, gg_InvalidPosts, eC_InvalidPosts, hC_InvalidPosts⟩
    a_InvalidJobs := a_InvalidJobs
    m_InvalidJobs := PySem.W.mg_of X G g_InvalidJobs
    f_InvalidJobs_init := f_InvalidJobs_init
    fd_InvalidJobs_init := _
    F_InvalidJobs_init := F_InvalidJobs_init
    b_InvalidJobs_init := F_InvalidJobs_init.binds (ps := ["self", "value"]) fun _ _ _ _ _ _ us hl => match us, hl with | [_, _], _ => rfl
    o_InvalidJobs := ⟨⟨_, _, _, _, _, _, _, _, _, _, _, _, _, _, _, xL_InvalidJobs, ve_InvalidJobs⟩, sa_InvalidJobs, eC_InvalidJobs, tC_InvalidJobs, kC_InvalidJobs⟩
    in_InvalidJobs := in_InvalidJobs
    ti_InvalidJobs := ti_InvalidJobs
    x_InvalidJobs_no := no_InvalidJobs
    x_InvalidJobs_xf := ⟨ga_InvalidJobs, gg_InvalidJobs, eC_InvalidJobs, hC_InvalidJobs⟩
    a_InvalidPart := a_InvalidPart
    m_InvalidPart := PySem.W.mg_of X G g_InvalidPart
    f_InvalidPart_init := f_InvalidPart_init
    fd_InvalidPart_init := _
    F_InvalidPart_init := F_InvalidPart_init
    b_InvalidPart_init := F_InvalidPart_init.binds (ps := ["self", "value"]) fun _ _ _ _ _ _ us hl => match us, hl with | [_, _], _ => rfl
    o_InvalidPart := ⟨⟨_, _, _, _, _, _, _, _, _, _, _, _, _, _, _, xL_InvalidPart, ve_InvalidPart⟩, sa_InvalidPart, eC_InvalidPart, tC_InvalidPart, kC_InvalidPart⟩
    in_InvalidPart := in_InvalidPart
    ti_InvalidPart := ti_InvalidPart
    x_InvalidPart_no := no_InvalidPart
    x_InvalidPart_xf := ⟨ga_InvalidPart, gg_InvalidPart, eC_InvalidPart, hC_InvalidPart⟩
    a_InvalidQuestion := a_InvalidQuestion
    m_InvalidQuestion := PySem.W.mg_of X G g_InvalidQuestion
    f_InvalidQuestion_init := f_InvalidQuestion_init
    fd_InvalidQuestion_init := _
    F_InvalidQuestion_init := F_InvalidQuestion_init
    b_InvalidQuestion_init := F_InvalidQuestion_init.binds (ps := ["self", "value"]) fun _ _ _ _ _ _ us hl => match us, hl with | [_, _], _ => rfl
    o_InvalidQuestion := ⟨⟨_, _, _, _, _, _, _, _, _, _, _, _, _, _, _, xL_InvalidQuestion, ve_InvalidQuestion⟩, sa_InvalidQuestion, eC_InvalidQuestion, tC_InvalidQuestion, kC_InvalidQuestion⟩
    in_InvalidQuestion := in_InvalidQuestion
    ti_InvalidQuestion := ti_InvalidQuestion
    x_InvalidQuestion_no := no_InvalidQuestion
    x_InvalidQuestion_xf := ⟨ga_InvalidQuestion, gg_InvalidQuestion, eC_InvalidQuestion, hC_InvalidQuestion⟩
    a_InvalidClaim := a_InvalidClaim
    m_InvalidClaim := PySem.W.mg_of X G g_InvalidClaim
    f_InvalidClaim_init := f_InvalidClaim_init
    fd_InvalidClaim_init := _
    F_InvalidClaim_init := F_InvalidClaim_init
    b_InvalidClaim_init := F_InvalidClaim_init.binds (ps := ["self", "value"]) fun _ _ _ _ _ _ us hl => match us, hl with | [_, _], _ => rfl
    o_InvalidClaim := ⟨⟨_, _, _, _, _, _, _, _, _, _, _, _, _, _, _, xL_InvalidClaim, ve_InvalidClaim⟩, sa_InvalidClaim, eC_InvalidClaim, tC_InvalidClaim, kC_InvalidClaim⟩
    in_InvalidClaim := in_InvalidClaim
    ti_InvalidClaim := ti_InvalidClaim
    x_InvalidClaim_no := no_InvalidClaim
    x_InvalidClaim_xf := ⟨ga_InvalidClaim, gg_InvalidClaim, eC_InvalidClaim, hC_InvalidClaim⟩
    a_TooLarge := a_TooLarge
    m_TooLarge := PySem.W.mg_of X G g_TooLarge
    f_TooLarge_init := f_TooLarge_init
    fd_TooLarge_init := _
    F_TooLarge_init := F_TooLarge_init
    b_TooLarge_init := F_TooLarge_init.binds (ps := ["self", "many"]) fun _ _ _ _ _ _ us hl => match us, hl with | [_, _], _ => rfl
    o_TooLarge := ⟨⟨_, _, _, _, _, _, _, _, _, _, _, _, _, _, _, xL_TooLarge, ve_TooLarge⟩, sa_TooLarge, eC_TooLarge, tC_TooLarge, kC_TooLarge⟩
    in_TooLarge := in_TooLarge
    ti_TooLarge := ti_TooLarge
    x_TooLarge_no := no_TooLarge
    x_TooLarge_xf := ⟨ga_TooLarge, gg_TooLarge, eC_TooLarge, hC_TooLarge⟩
    a_Undefined := a_Undefined
    m_Undefined := PySem.W.mg_of X G g_Undefined
    f_Undefined_init := f_Undefined_init
    fd_Undefined_init := _
    F_Undefined_init := F_Undefined_init
    b_Undefined_init := F_Undefined_init.binds (ps := ["self", "what"]) fun _ _ _ _ _ _ us hl => match us, hl with | [_, _], _ => rfl
    o_Undefined := ⟨⟨_, _, _, _, _, _, _, _, _, _, _, _, _, _, _, xL_Undefined, ve_Undefined⟩, sa_Undefined, eC_Undefined, tC_Undefined, kC_Undefined⟩
    in_Undefined := in_Undefined
    ti_Undefined := ti_Undefined
    x_Undefined_no := no_Undefined
    x_Undefined_xf := ⟨ga_Undefined, gg_Undefined, eC_Undefined, hC_Undefined⟩
    a_NothingToUndo := a_NothingToUndo
    m_NothingToUndo := PySem.W.mg_of X G g_NothingToUndo
    f_NothingToUndo_init := f_NothingToUndo_init
    fd_NothingToUndo_init := _
    F_NothingToUndo_init := F_NothingToUndo_init
    b_NothingToUndo_init := F_NothingToUndo_init.binds (ps := ["self", "word"]) fun _ _ _ _ _ _ us hl => match us, hl with | [_, _], _ => rfl
    o_NothingToUndo := ⟨⟨_, _, _, _, _, _, _, _, _, _, _, _, _, _, _, xL_NothingToUndo, ve_NothingToUndo⟩, sa_NothingToUndo, eC_NothingToUndo, tC_NothingToUndo, kC_NothingToUndo⟩
    in_NothingToUndo := in_NothingToUndo
    ti_NothingToUndo := ti_NothingToUndo
    x_NothingToUndo_no := no_NothingToUndo
    x_NothingToUndo_xf := ⟨ga_NothingToUndo, gg_NothingToUndo, eC_NothingToUndo, hC_NothingToUndo⟩
    n_ValueError := PySem.W.mg_none_of X G n_ValueError_g
    n_abs := PySem.W.mg_none_of X G n_abs_g
    n_int := PySem.W.mg_none_of X G n_int_g
    n_isinstance := PySem.W.mg_none_of X G n_isinstance_g
    n_len := PySem.W.mg_none_of X G n_len_g
    n_range := PySem.W.mg_none_of X G n_range_g
    n_str := PySem.W.mg_none_of X G n_str_g
    a_DutyError := a_DutyError
    m_DutyError := PySem.W.mg_of X G g_DutyError
    is_InvalidNumber := tab_of (as := [a_InvalidNumber, a_InvalidTable, a_InvalidRow, a_InvalidRules, a_InvalidMachines, a_InvalidWants, a_InvalidRota, a_InvalidDislikes, a_InvalidLoads, a_InvalidFixed, a_InvalidSkills, a_InvalidPosts, a_InvalidJobs, a_InvalidPart, a_InvalidQuestion, a_InvalidClaim, a_TooLarge, a_Undefined, a_NothingToUndo]) (bs := [true, false, false, false, false, false, false, false, false, false, false, false, false, false, false, false, false, false, false]) ⟨⟨PySem.W.mg_of X G g_InvalidNumber, xc_InvalidNumber, kit_refF ic_InvalidNumber tC_InvalidNumber su_InvalidNumber_InvalidNumber su_InvalidNumber_InvalidNumber⟩, ⟨⟨PySem.W.mg_of X G g_InvalidTable, xc_InvalidTable, kit_refF ic_InvalidNumber tC_InvalidNumber su_InvalidNumber_InvalidNumber su_InvalidTable_InvalidNumber⟩, ⟨⟨PySem.W.mg_of X G g_InvalidRow, xc_InvalidRow, kit_refF ic_InvalidNumber tC_InvalidNumber su_InvalidNumber_InvalidNumber su_InvalidRow_InvalidNumber⟩, ⟨⟨PySem.W.mg_of X G g_InvalidRules, xc_InvalidRules, kit_refF ic_InvalidNumber tC_InvalidNumber su_InvalidNumber_InvalidNumber su_InvalidRules_InvalidNumber⟩, ⟨⟨PySem.W.mg_of X G g_InvalidMachines, xc_InvalidMachines, kit_refF ic_InvalidNumber tC_InvalidNumber su_InvalidNumber_InvalidNumber su_InvalidMachines_InvalidNumber⟩, ⟨⟨PySem.W.mg_of X G g_InvalidWants, xc_InvalidWants, kit_refF ic_InvalidNumber tC_InvalidNumber su_InvalidNumber_InvalidNumber su_InvalidWants_InvalidNumber⟩, ⟨⟨PySem.W.mg_of X G g_InvalidRota, xc_InvalidRota, kit_refF ic_InvalidNumber tC_InvalidNumber su_InvalidNumber_InvalidNumber su_InvalidRota_InvalidNumber⟩, ⟨⟨PySem.W.mg_of X G g_InvalidDislikes, xc_InvalidDislikes, kit_refF ic_InvalidNumber tC_InvalidNumber su_InvalidNumber_InvalidNumber su_InvalidDislikes_InvalidNumber⟩, ⟨⟨PySem.W.mg_of X G g_InvalidLoads, xc_InvalidLoads, kit_refF ic_InvalidNumber tC_InvalidNumber su_InvalidNumber_InvalidNumber su_InvalidLoads_InvalidNumber⟩, ⟨⟨PySem.W.mg_of X G g_InvalidFixed, xc_InvalidFixed, kit_refF ic_InvalidNumber tC_InvalidNumber su_InvalidNumber_InvalidNumber su_InvalidFixed_InvalidNumber⟩, ⟨⟨PySem.W.mg_of X G g_InvalidSkills, xc_InvalidSkills, kit_refF ic_InvalidNumber tC_InvalidNumber su_InvalidNumber_InvalidNumber su_InvalidSkills_InvalidNumber⟩, ⟨⟨PySem.W.mg_of X G g_InvalidPosts, xc_InvalidPosts, kit_refF ic_InvalidNumber tC_InvalidNumber su_InvalidNumber_InvalidNumber su_InvalidPosts_InvalidNumber⟩, ⟨⟨PySem.W.mg_of X G g_InvalidJobs, xc_InvalidJobs, kit_refF ic_InvalidNumber tC_InvalidNumber su_InvalidNumber_InvalidNumber su_InvalidJobs_InvalidNumber⟩, ⟨⟨PySem.W.mg_of X G g_InvalidPart, xc_InvalidPart, kit_refF ic_InvalidNumber tC_InvalidNumber su_InvalidNumber_InvalidNumber su_InvalidPart_InvalidNumber⟩, ⟨⟨PySem.W.mg_of X G g_InvalidQuestion, xc_InvalidQuestion, kit_refF ic_InvalidNumber tC_InvalidNumber su_InvalidNumber_InvalidNumber su_InvalidQuestion_InvalidNumber⟩, ⟨⟨PySem.W.mg_of X G g_InvalidClaim, xc_InvalidClaim, kit_refF ic_InvalidNumber tC_InvalidNumber su_InvalidNumber_InvalidNumber su_InvalidClaim_InvalidNumber⟩, ⟨⟨PySem.W.mg_of X G g_TooLarge, xc_TooLarge, kit_refF ic_InvalidNumber tC_InvalidNumber su_InvalidNumber_InvalidNumber su_TooLarge_InvalidNumber⟩, ⟨⟨PySem.W.mg_of X G g_Undefined, xc_Undefined, kit_refF ic_InvalidNumber tC_InvalidNumber su_InvalidNumber_InvalidNumber su_Undefined_InvalidNumber⟩, ⟨⟨PySem.W.mg_of X G g_NothingToUndo, xc_NothingToUndo, kit_refF ic_InvalidNumber tC_InvalidNumber su_InvalidNumber_InvalidNumber su_NothingToUndo_InvalidNumber⟩, trivial⟩⟩⟩⟩⟩⟩⟩⟩⟩⟩⟩⟩⟩⟩⟩⟩⟩⟩⟩ (by decide +kernel)
    is_InvalidTable := tab_of (as := [a_InvalidNumber, a_InvalidTable, a_InvalidRow, a_InvalidRules, a_InvalidMachines, a_InvalidWants, a_InvalidRota, a_InvalidDislikes, a_InvalidLoads, a_InvalidFixed, a_InvalidSkills, a_InvalidPosts, a_InvalidJobs, a_InvalidPart, a_InvalidQuestion, a_InvalidClaim, a_TooLarge, a_Undefined, a_NothingToUndo]) (bs := [false, true, false, false, false, false, false, false, false, false, false, false, false, false, false, false, false, false, false]) ⟨⟨PySem.W.mg_of X G g_InvalidNumber, xc_InvalidNumber, kit_refF ic_InvalidTable tC_InvalidTable su_InvalidTable_InvalidTable su_InvalidNumber_InvalidTable⟩, ⟨⟨PySem.W.mg_of X G g_InvalidTable, xc_InvalidTable, kit_refF ic_InvalidTable tC_InvalidTable su_InvalidTable_InvalidTable su_InvalidTable_InvalidTable⟩, ⟨⟨PySem.W.mg_of X G g_InvalidRow, xc_InvalidRow, kit_refF ic_InvalidTable tC_InvalidTable su_InvalidTable_InvalidTable su_InvalidRow_InvalidTable⟩, ⟨⟨PySem.W.mg_of X G g_InvalidRules, xc_InvalidRules, kit_refF ic_InvalidTable tC_InvalidTable su_InvalidTable_InvalidTable su_InvalidRules_InvalidTable⟩, ⟨⟨PySem.W.mg_of X G g_InvalidMachines, xc_InvalidMachines, kit_refF ic_InvalidTable tC_InvalidTable su_InvalidTable_InvalidTable su_InvalidMachines_InvalidTable⟩, ⟨⟨PySem.W.mg_of X G g_InvalidWants, xc_InvalidWants, kit_refF ic_InvalidTable tC_InvalidTable su_InvalidTable_InvalidTable su_InvalidWants_InvalidTable⟩, ⟨⟨PySem.W.mg_of X G g_InvalidRota, xc_InvalidRota, kit_refF ic_InvalidTable tC_InvalidTable su_InvalidTable_InvalidTable su_InvalidRota_InvalidTable⟩, ⟨⟨PySem.W.mg_of X G g_InvalidDislikes, xc_InvalidDislikes, kit_refF ic_InvalidTable tC_InvalidTable su_InvalidTable_InvalidTable su_InvalidDislikes_InvalidTable⟩, ⟨⟨PySem.W.mg_of X G g_InvalidLoads, xc_InvalidLoads, kit_refF ic_InvalidTable tC_InvalidTable su_InvalidTable_InvalidTable su_InvalidLoads_InvalidTable⟩, ⟨⟨PySem.W.mg_of X G g_InvalidFixed, xc_InvalidFixed, kit_refF ic_InvalidTable tC_InvalidTable su_InvalidTable_InvalidTable su_InvalidFixed_InvalidTable⟩, ⟨⟨PySem.W.mg_of X G g_InvalidSkills, xc_InvalidSkills, kit_refF ic_InvalidTable tC_InvalidTable su_InvalidTable_InvalidTable su_InvalidSkills_InvalidTable⟩, ⟨⟨PySem.W.mg_of X G g_InvalidPosts, xc_InvalidPosts, kit_refF ic_InvalidTable tC_InvalidTable su_InvalidTable_InvalidTable su_InvalidPosts_InvalidTable⟩, ⟨⟨PySem.W.mg_of X G g_InvalidJobs, xc_InvalidJobs, kit_refF ic_InvalidTable tC_InvalidTable su_InvalidTable_InvalidTable su_InvalidJobs_InvalidTable⟩, ⟨⟨PySem.W.mg_of X G g_InvalidPart, xc_InvalidPart, kit_refF ic_InvalidTable tC_InvalidTable su_InvalidTable_InvalidTable su_InvalidPart_InvalidTable⟩, ⟨⟨PySem.W.mg_of X G g_InvalidQuestion, xc_InvalidQuestion, kit_refF ic_InvalidTable tC_InvalidTable su_InvalidTable_InvalidTable su_InvalidQuestion_InvalidTable⟩, ⟨⟨PySem.W.mg_of X G g_InvalidClaim, xc_InvalidClaim, kit_refF ic_InvalidTable tC_InvalidTable su_InvalidTable_InvalidTable su_InvalidClaim_InvalidTable⟩, ⟨⟨PySem.W.mg_of X G g_TooLarge, xc_TooLarge, kit_refF ic_InvalidTable tC_InvalidTable su_InvalidTable_InvalidTable su_TooLarge_InvalidTable⟩, ⟨⟨PySem.W.mg_of X G g_Undefined, xc_Undefined, kit_refF ic_InvalidTable tC_InvalidTable su_InvalidTable_InvalidTable su_Undefined_InvalidTable⟩, ⟨⟨PySem.W.mg_of X G g_NothingToUndo, xc_NothingToUndo, kit_refF ic_InvalidTable tC_InvalidTable su_InvalidTable_InvalidTable su_NothingToUndo_InvalidTable⟩, trivial⟩⟩⟩⟩⟩⟩⟩⟩⟩⟩⟩⟩⟩⟩⟩⟩⟩⟩⟩ (by decide +kernel)
    is_InvalidRow := tab_of (as := [a_InvalidNumber, a_InvalidTable, a_InvalidRow, a_InvalidRules, a_InvalidMachines, a_InvalidWants, a_InvalidRota, a_InvalidDislikes, a_InvalidLoads, a_InvalidFixed, a_InvalidSkills, a_InvalidPosts, a_InvalidJobs, a_InvalidPart, a_InvalidQuestion, a_InvalidClaim, a_TooLarge, a_Undefined, a_NothingToUndo]) (bs := [false, false, true, false, false, false, false, false, false, false, false, false, false, false, false, false, false, false, false]) ⟨⟨PySem.W.mg_of X G g_InvalidNumber, xc_InvalidNumber, kit_refF ic_InvalidRow tC_InvalidRow su_InvalidRow_InvalidRow su_InvalidNumber_InvalidRow⟩, ⟨⟨PySem.W.mg_of X G g_InvalidTable, xc_InvalidTable, kit_refF ic_InvalidRow tC_InvalidRow su_InvalidRow_InvalidRow su_InvalidTable_InvalidRow⟩, ⟨⟨PySem.W.mg_of X G g_InvalidRow, xc_InvalidRow, kit_refF ic_InvalidRow tC_InvalidRow su_InvalidRow_InvalidRow su_InvalidRow_InvalidRow⟩, ⟨⟨PySem.W.mg_of X G g_InvalidRules, xc_InvalidRules, kit_refF ic_InvalidRow tC_InvalidRow su_InvalidRow_InvalidRow su_InvalidRules_InvalidRow⟩, ⟨⟨PySem.W.mg_of X G g_InvalidMachines, xc_InvalidMachines, kit_refF ic_InvalidRow tC_InvalidRow su_InvalidRow_InvalidRow su_InvalidMachines_InvalidRow⟩, ⟨⟨PySem.W.mg_of X G g_InvalidWants, xc_InvalidWants, kit_refF ic_InvalidRow tC_InvalidRow su_InvalidRow_InvalidRow su_InvalidWants_InvalidRow⟩, ⟨⟨PySem.W.mg_of X G g_InvalidRota, xc_InvalidRota, kit_refF ic_InvalidRow tC_InvalidRow su_InvalidRow_InvalidRow su_InvalidRota_InvalidRow⟩, ⟨⟨PySem.W.mg_of X G g_InvalidDislikes, xc_InvalidDislikes, kit_refF ic_InvalidRow tC_InvalidRow su_InvalidRow_InvalidRow su_InvalidDislikes_InvalidRow⟩, ⟨⟨PySem.W.mg_of X G g_InvalidLoads, xc_InvalidLoads, kit_refF ic_InvalidRow tC_InvalidRow su_InvalidRow_InvalidRow su_InvalidLoads_InvalidRow⟩, ⟨⟨PySem.W.mg_of X G g_InvalidFixed, xc_InvalidFixed, kit_refF ic_InvalidRow tC_InvalidRow su_InvalidRow_InvalidRow su_InvalidFixed_InvalidRow⟩, ⟨⟨PySem.W.mg_of X G g_InvalidSkills, xc_InvalidSkills, kit_refF ic_InvalidRow tC_InvalidRow su_InvalidRow_InvalidRow su_InvalidSkills_InvalidRow⟩, ⟨⟨PySem.W.mg_of X G g_InvalidPosts, xc_InvalidPosts, kit_refF ic_InvalidRow tC_InvalidRow su_InvalidRow_InvalidRow su_InvalidPosts_InvalidRow⟩, ⟨⟨PySem.W.mg_of X G g_InvalidJobs, xc_InvalidJobs, kit_refF ic_InvalidRow tC_InvalidRow su_InvalidRow_InvalidRow su_InvalidJobs_InvalidRow⟩, ⟨⟨PySem.W.mg_of X G g_InvalidPart, xc_InvalidPart, kit_refF ic_InvalidRow tC_InvalidRow su_InvalidRow_InvalidRow su_InvalidPart_InvalidRow⟩, ⟨⟨PySem.W.mg_of X G g_InvalidQuestion, xc_InvalidQuestion, kit_refF ic_InvalidRow tC_InvalidRow su_InvalidRow_InvalidRow su_InvalidQuestion_InvalidRow⟩, ⟨⟨PySem.W.mg_of X G g_InvalidClaim, xc_InvalidClaim, kit_refF ic_InvalidRow tC_InvalidRow su_InvalidRow_InvalidRow su_InvalidClaim_InvalidRow⟩, ⟨⟨PySem.W.mg_of X G g_TooLarge, xc_TooLarge, kit_refF ic_InvalidRow tC_InvalidRow su_InvalidRow_InvalidRow su_TooLarge_InvalidRow⟩, ⟨⟨PySem.W.mg_of X G g_Undefined, xc_Undefined, kit_refF ic_InvalidRow tC_InvalidRow su_InvalidRow_InvalidRow su_Undefined_InvalidRow⟩, ⟨⟨PySem.W.mg_of X G g_NothingToUndo, xc_NothingToUndo, kit_refF ic_InvalidRow tC_InvalidRow su_InvalidRow_InvalidRow su_NothingToUndo_InvalidRow⟩, trivial⟩⟩⟩⟩⟩⟩⟩⟩⟩⟩⟩⟩⟩⟩⟩⟩⟩⟩⟩ (by decide +kernel)
    is_InvalidRules := tab_of (as := [a_InvalidNumber, a_InvalidTable, a_InvalidRow, a_InvalidRules, a_InvalidMachines, a_InvalidWants, a_InvalidRota, a_InvalidDislikes, a_InvalidLoads, a_InvalidFixed, a_InvalidSkills, a_InvalidPosts, a_InvalidJobs, a_InvalidPart, a_InvalidQuestion, a_InvalidClaim, a_TooLarge, a_Undefined, a_NothingToUndo]) (bs := [false, false, false, true, false, false, false, false, false, false, false, false, false, false, false, false, false, false, false]) ⟨⟨PySem.W.mg_of X G g_InvalidNumber, xc_InvalidNumber, kit_refF ic_InvalidRules tC_InvalidRules su_InvalidRules_InvalidRules su_InvalidNumber_InvalidRules⟩, ⟨⟨PySem.W.mg_of X G g_InvalidTable, xc_InvalidTable, kit_refF ic_InvalidRules tC_InvalidRules su_InvalidRules_InvalidRules su_InvalidTable_InvalidRules⟩, ⟨⟨PySem.W.mg_of X G g_InvalidRow, xc_InvalidRow, kit_refF ic_InvalidRules tC_InvalidRules su_InvalidRules_InvalidRules su_InvalidRow_InvalidRules⟩, ⟨⟨PySem.W.mg_of X G g_InvalidRules, xc_InvalidRules, kit_refF ic_InvalidRules tC_InvalidRules su_InvalidRules_InvalidRules su_InvalidRules_InvalidRules⟩, ⟨⟨PySem.W.mg_of X G g_InvalidMachines, xc_InvalidMachines, kit_refF ic_InvalidRules tC_InvalidRules su_InvalidRules_InvalidRules su_InvalidMachines_InvalidRules⟩, ⟨⟨PySem.W.mg_of X G g_InvalidWants, xc_InvalidWants, kit_refF ic_InvalidRules tC_InvalidRules su_InvalidRules_InvalidRules su_InvalidWants_InvalidRules⟩, ⟨⟨PySem.W.mg_of X G g_InvalidRota, xc_InvalidRota, kit_refF ic_InvalidRules tC_InvalidRules su_InvalidRules_InvalidRules su_InvalidRota_InvalidRules⟩, ⟨⟨PySem.W.mg_of X G g_InvalidDislikes, xc_InvalidDislikes, kit_refF ic_InvalidRules tC_InvalidRules su_InvalidRules_InvalidRules su_InvalidDislikes_InvalidRules⟩, ⟨⟨PySem.W.mg_of X G g_InvalidLoads, xc_InvalidLoads, kit_refF ic_InvalidRules tC_InvalidRules su_InvalidRules_InvalidRules su_InvalidLoads_InvalidRules⟩, ⟨⟨PySem.W.mg_of X G g_InvalidFixed, xc_InvalidFixed, kit_refF ic_InvalidRules tC_InvalidRules su_InvalidRules_InvalidRules su_InvalidFixed_InvalidRules⟩, ⟨⟨PySem.W.mg_of X G g_InvalidSkills, xc_InvalidSkills, kit_refF ic_InvalidRules tC_InvalidRules su_InvalidRules_InvalidRules su_InvalidSkills_InvalidRules⟩, ⟨⟨PySem.W.mg_of X G g_InvalidPosts, xc_InvalidPosts, kit_refF ic_InvalidRules tC_InvalidRules su_InvalidRules_InvalidRules su_InvalidPosts_InvalidRules⟩, ⟨⟨PySem.W.mg_of X G g_InvalidJobs, xc_InvalidJobs, kit_refF ic_InvalidRules tC_InvalidRules su_InvalidRules_InvalidRules su_InvalidJobs_InvalidRules⟩, ⟨⟨PySem.W.mg_of X G g_InvalidPart, xc_InvalidPart, kit_refF ic_InvalidRules tC_InvalidRules su_InvalidRules_InvalidRules su_InvalidPart_InvalidRules⟩, ⟨⟨PySem.W.mg_of X G g_InvalidQuestion, xc_InvalidQuestion, kit_refF ic_InvalidRules tC_InvalidRules su_InvalidRules_InvalidRules su_InvalidQuestion_InvalidRules⟩, ⟨⟨PySem.W.mg_of X G g_InvalidClaim, xc_InvalidClaim, kit_refF ic_InvalidRules tC_InvalidRules su_InvalidRules_InvalidRules su_InvalidClaim_InvalidRules⟩, ⟨⟨PySem.W.mg_of X G g_TooLarge, xc_TooLarge, kit_refF ic_InvalidRules tC_InvalidRules su_InvalidRules_InvalidRules su_TooLarge_InvalidRules⟩, ⟨⟨PySem.W.mg_of X G g_Undefined, xc_Undefined, kit_refF ic_InvalidRules tC_InvalidRules su_InvalidRules_InvalidRules su_Undefined_InvalidRules⟩, ⟨⟨PySem.W.mg_of X G g_NothingToUndo, xc_NothingToUndo, kit_refF ic_InvalidRules tC_InvalidRules su_InvalidRules_InvalidRules su_NothingToUndo_InvalidRules⟩, trivial⟩⟩⟩⟩⟩⟩⟩⟩⟩⟩⟩⟩⟩⟩⟩⟩⟩⟩⟩ (by decide +kernel)
    is_InvalidMachines := tab_of (as := [a_InvalidNumber, a_InvalidTable, a_InvalidRow, a_InvalidRules, a_InvalidMachines, a_InvalidWants, a_InvalidRota, a_InvalidDislikes, a_InvalidLoads, a_InvalidFixed, a_InvalidSkills, a_InvalidPosts, a_InvalidJobs, a_InvalidPart, a_InvalidQuestion, a_InvalidClaim, a_TooLarge, a_Undefined, a_NothingToUndo]) (bs := [false, false, false, false, true, false, false, false, false, false, false, false, false, false, false, false, false, false, false]) ⟨⟨PySem.W.mg_of X G g_InvalidNumber, xc_InvalidNumber, kit_refF ic_InvalidMachines tC_InvalidMachines su_InvalidMachines_InvalidMachines su_InvalidNumber_InvalidMachines⟩, ⟨⟨PySem.W.mg_of X G g_InvalidTable, xc_InvalidTable, kit_refF ic_InvalidMachines tC_InvalidMachines su_InvalidMachines_InvalidMachines su_InvalidTable_InvalidMachines⟩, ⟨⟨PySem.W.mg_of X G g_InvalidRow, xc_InvalidRow, kit_refF ic_InvalidMachines tC_InvalidMachines su_InvalidMachines_InvalidMachines su_InvalidRow_InvalidMachines⟩, ⟨⟨PySem.W.mg_of X G g_InvalidRules, xc_InvalidRules, kit_refF ic_InvalidMachines tC_InvalidMachines su_InvalidMachines_InvalidMachines su_InvalidRules_InvalidMachines⟩, ⟨⟨PySem.W.mg_of X G g_InvalidMachines, xc_InvalidMachines, kit_refF ic_InvalidMachines tC_InvalidMachines su_InvalidMachines_InvalidMachines su_InvalidMachines_InvalidMachines⟩, ⟨⟨PySem.W.mg_of X G g_InvalidWants, xc_InvalidWants, kit_refF ic_InvalidMachines tC_InvalidMachines su_InvalidMachines_InvalidMachines su_InvalidWants_InvalidMachines⟩, ⟨⟨PySem.W.mg_of X G g_InvalidRota, xc_InvalidRota, kit_refF ic_InvalidMachines tC_InvalidMachines su_InvalidMachines_InvalidMachines su_InvalidRota_InvalidMachines⟩, ⟨⟨PySem.W.mg_of X G g_InvalidDislikes, xc_InvalidDislikes, kit_refF ic_InvalidMachines tC_InvalidMachines su_InvalidMachines_InvalidMachines su_InvalidDislikes_InvalidMachines⟩, ⟨⟨PySem.W.mg_of X G g_InvalidLoads, xc_InvalidLoads, kit_refF ic_InvalidMachines tC_InvalidMachines su_InvalidMachines_InvalidMachines su_InvalidLoads_InvalidMachines⟩, ⟨⟨PySem.W.mg_of X G g_InvalidFixed, xc_InvalidFixed, kit_refF ic_InvalidMachines tC_InvalidMachines su_InvalidMachines_InvalidMachines su_InvalidFixed_InvalidMachines⟩, ⟨⟨PySem.W.mg_of X G g_InvalidSkills, xc_InvalidSkills, kit_refF ic_InvalidMachines tC_InvalidMachines su_InvalidMachines_InvalidMachines su_InvalidSkills_InvalidMachines⟩, ⟨⟨PySem.W.mg_of X G g_InvalidPosts, xc_InvalidPosts, kit_refF ic_InvalidMachines tC_InvalidMachines su_InvalidMachines_InvalidMachines su_InvalidPosts_InvalidMachines⟩, ⟨⟨PySem.W.mg_of X G g_InvalidJobs, xc_InvalidJobs, kit_refF ic_InvalidMachines tC_InvalidMachines su_InvalidMachines_InvalidMachines su_InvalidJobs_InvalidMachines⟩, ⟨⟨PySem.W.mg_of X G g_InvalidPart, xc_InvalidPart, kit_refF ic_InvalidMachines tC_InvalidMachines su_InvalidMachines_InvalidMachines su_InvalidPart_InvalidMachines⟩, ⟨⟨PySem.W.mg_of X G g_InvalidQuestion, xc_InvalidQuestion, kit_refF ic_InvalidMachines tC_InvalidMachines su_InvalidMachines_InvalidMachines su_InvalidQuestion_InvalidMachines⟩, ⟨⟨PySem.W.mg_of X G g_InvalidClaim, xc_InvalidClaim, kit_refF ic_InvalidMachines tC_InvalidMachines su_InvalidMachines_InvalidMachines su_InvalidClaim_InvalidMachines⟩, ⟨⟨PySem.W.mg_of X G g_TooLarge, xc_TooLarge, kit_refF ic_InvalidMachines tC_InvalidMachines su_InvalidMachines_InvalidMachines su_TooLarge_InvalidMachines⟩, ⟨⟨PySem.W.mg_of X G g_Undefined, xc_Undefined, kit_refF ic_InvalidMachines tC_InvalidMachines su_InvalidMachines_InvalidMachines su_Undefined_InvalidMachines⟩, ⟨⟨PySem.W.mg_of X G g_NothingToUndo, xc_NothingToUndo, kit_refF ic_InvalidMachines tC_InvalidMachines su_InvalidMachines_InvalidMachines su_NothingToUndo_InvalidMachines⟩, trivial⟩⟩⟩⟩⟩⟩⟩⟩⟩⟩⟩⟩⟩⟩⟩⟩⟩⟩⟩ (by decide +kernel)
    is_InvalidWants := tab_of (as := [a_InvalidNumber, a_InvalidTable, a_InvalidRow, a_InvalidRules, a_InvalidMachines, a_InvalidWants, a_InvalidRota, a_InvalidDislikes, a_InvalidLoads, a_InvalidFixed, a_InvalidSkills, a_InvalidPosts, a_InvalidJobs, a_InvalidPart, a_InvalidQuestion, a_InvalidClaim, a_TooLarge, a_Undefined, a_NothingToUndo]) (bs := [false, false, false, false, false, true, false, false, false, false, false, false, false, false, false, false, false, false, false]) ⟨⟨PySem.W.mg_of X G g_InvalidNumber, xc_InvalidNumber, kit_refF ic_InvalidWants tC_InvalidWants su_InvalidWants_InvalidWants su_InvalidNumber_InvalidWants⟩, ⟨⟨PySem.W.mg_of X G g_InvalidTable, xc_InvalidTable, kit_refF ic_InvalidWants tC_InvalidWants su_InvalidWants_InvalidWants su_InvalidTable_InvalidWants⟩, ⟨⟨PySem.W.mg_of X G g_InvalidRow, xc_InvalidRow, kit_refF ic_InvalidWants tC_InvalidWants su_InvalidWants_InvalidWants su_InvalidRow_InvalidWants⟩, ⟨⟨PySem.W.mg_of X G g_InvalidRules, xc_InvalidRules, kit_refF ic_InvalidWants tC_InvalidWants su_InvalidWants_InvalidWants su_InvalidRules_InvalidWants⟩, ⟨⟨PySem.W.mg_of X G g_InvalidMachines, xc_InvalidMachines, kit_refF ic_InvalidWants tC_InvalidWants su_InvalidWants_InvalidWants su_InvalidMachines_InvalidWants⟩, ⟨⟨PySem.W.mg_of X G g_InvalidWants, xc_InvalidWants, kit_refF ic_InvalidWants tC_InvalidWants su_InvalidWants_InvalidWants su_InvalidWants_InvalidWants⟩, ⟨⟨PySem.W.mg_of X G g_InvalidRota, xc_InvalidRota, kit_refF ic_InvalidWants tC_InvalidWants su_InvalidWants_InvalidWants su_InvalidRota_InvalidWants⟩, ⟨⟨PySem.W.mg_of X G g_InvalidDislikes, xc_InvalidDislikes, kit_refF ic_InvalidWants tC_InvalidWants su_InvalidWants_InvalidWants su_InvalidDislikes_InvalidWants⟩, ⟨⟨PySem.W.mg_of X G g_InvalidLoads, xc_InvalidLoads, kit_refF ic_InvalidWants tC_InvalidWants su_InvalidWants_InvalidWants su_InvalidLoads_InvalidWants⟩, ⟨⟨PySem.W.mg_of X G g_InvalidFixed, xc_InvalidFixed, kit_refF ic_InvalidWants tC_InvalidWants su_InvalidWants_InvalidWants su_InvalidFixed_InvalidWants⟩, ⟨⟨PySem.W.mg_of X G g_InvalidSkills, xc_InvalidSkills, kit_refF ic_InvalidWants tC_InvalidWants su_InvalidWants_InvalidWants su_InvalidSkills_InvalidWants⟩, ⟨⟨PySem.W.mg_of X G g_InvalidPosts, xc_InvalidPosts, kit_refF ic_InvalidWants tC_InvalidWants su_InvalidWants_InvalidWants su_InvalidPosts_InvalidWants⟩, ⟨⟨PySem.W.mg_of X G g_InvalidJobs, xc_InvalidJobs, kit_refF ic_InvalidWants tC_InvalidWants su_InvalidWants_InvalidWants su_InvalidJobs_InvalidWants⟩, ⟨⟨PySem.W.mg_of X G g_InvalidPart, xc_InvalidPart, kit_refF ic_InvalidWants tC_InvalidWants su_InvalidWants_InvalidWants su_InvalidPart_InvalidWants⟩, ⟨⟨PySem.W.mg_of X G g_InvalidQuestion, xc_InvalidQuestion, kit_refF ic_InvalidWants tC_InvalidWants su_InvalidWants_InvalidWants su_InvalidQuestion_InvalidWants⟩, ⟨⟨PySem.W.mg_of X G g_InvalidClaim, xc_InvalidClaim, kit_refF ic_InvalidWants tC_InvalidWants su_InvalidWants_InvalidWants su_InvalidClaim_InvalidWants⟩, ⟨⟨PySem.W.mg_of X G g_TooLarge, xc_TooLarge, kit_refF ic_InvalidWants tC_InvalidWants su_InvalidWants_InvalidWants su_TooLarge_InvalidWants⟩, ⟨⟨PySem.W.mg_of X G g_Undefined, xc_Undefined, kit_refF ic_InvalidWants tC_InvalidWants su_InvalidWants_InvalidWants su_Undefined_InvalidWants⟩, ⟨⟨PySem.W.mg_of X G g_NothingToUndo, xc_NothingToUndo, kit_refF ic_InvalidWants tC_InvalidWants su_InvalidWants_InvalidWants su_NothingToUndo_InvalidWants⟩, trivial⟩⟩⟩⟩⟩⟩⟩⟩⟩⟩⟩⟩⟩⟩⟩⟩⟩⟩⟩ (by decide +kernel)
    is_InvalidRota := tab_of (as := [a_InvalidNumber, a_InvalidTable, a_InvalidRow, a_InvalidRules, a_InvalidMachines, a_InvalidWants, a_InvalidRota, a_InvalidDislikes, a_InvalidLoads, a_InvalidFixed, a_InvalidSkills, a_InvalidPosts, a_InvalidJobs, a_InvalidPart, a_InvalidQuestion, a_InvalidClaim, a_TooLarge, a_Undefined, a_NothingToUndo]) (bs := [false, false, false, false, false, false, true, false, false, false, false, false, false, false, false, false, false, false, false]) ⟨⟨PySem.W.mg_of X G g_InvalidNumber, xc_InvalidNumber, kit_refF ic_InvalidRota tC_InvalidRota su_InvalidRota_InvalidRota su_InvalidNumber_InvalidRota⟩, ⟨⟨PySem.W.mg_of X G g_InvalidTable, xc_InvalidTable, kit_refF ic_InvalidRota tC_InvalidRota su_InvalidRota_InvalidRota su_InvalidTable_InvalidRota⟩, ⟨⟨PySem.W.mg_of X G g_InvalidRow, xc_InvalidRow, kit_refF ic_InvalidRota tC_InvalidRota su_InvalidRota_InvalidRota su_InvalidRow_InvalidRota⟩, ⟨⟨PySem.W.mg_of X G g_InvalidRules, xc_InvalidRules, kit_refF ic_InvalidRota tC_InvalidRota su_InvalidRota_InvalidRota su_InvalidRules_InvalidRota⟩, ⟨⟨PySem.W.mg_of X G g_InvalidMachines, xc_InvalidMachines, kit_refF ic_InvalidRota tC_InvalidRota su_InvalidRota_InvalidRota su_InvalidMachines_InvalidRota⟩, ⟨⟨PySem.W.mg_of X G g_InvalidWants, xc_InvalidWants, kit_refF ic_InvalidRota tC_InvalidRota su_InvalidRota_InvalidRota su_InvalidWants_InvalidRota⟩, ⟨⟨PySem.W.mg_of X G g_InvalidRota, xc_InvalidRota, kit_refF ic_InvalidRota tC_InvalidRota su_InvalidRota_InvalidRota su_InvalidRota_InvalidRota⟩, ⟨⟨PySem.W.mg_of X G g_InvalidDislikes, xc_InvalidDislikes, kit_refF ic_InvalidRota tC_InvalidRota su_InvalidRota_InvalidRota su_InvalidDislikes_InvalidRota⟩, ⟨⟨PySem.W.mg_of X G g_InvalidLoads, xc_InvalidLoads, kit_refF ic_InvalidRota tC_InvalidRota su_InvalidRota_InvalidRota su_InvalidLoads_InvalidRota⟩, ⟨⟨PySem.W.mg_of X G g_InvalidFixed, xc_InvalidFixed, kit_refF ic_InvalidRota tC_InvalidRota su_InvalidRota_InvalidRota su_InvalidFixed_InvalidRota⟩, ⟨⟨PySem.W.mg_of X G g_InvalidSkills, xc_InvalidSkills, kit_refF ic_InvalidRota tC_InvalidRota su_InvalidRota_InvalidRota su_InvalidSkills_InvalidRota⟩, ⟨⟨PySem.W.mg_of X G g_InvalidPosts, xc_InvalidPosts, kit_refF ic_InvalidRota tC_InvalidRota su_InvalidRota_InvalidRota su_InvalidPosts_InvalidRota⟩, ⟨⟨PySem.W.mg_of X G g_InvalidJobs, xc_InvalidJobs, kit_refF ic_InvalidRota tC_InvalidRota su_InvalidRota_InvalidRota su_InvalidJobs_InvalidRota⟩, ⟨⟨PySem.W.mg_of X G g_InvalidPart, xc_InvalidPart, kit_refF ic_InvalidRota tC_InvalidRota su_InvalidRota_InvalidRota su_InvalidPart_InvalidRota⟩, ⟨⟨PySem.W.mg_of X G g_InvalidQuestion, xc_InvalidQuestion, kit_refF ic_InvalidRota tC_InvalidRota su_InvalidRota_InvalidRota su_InvalidQuestion_InvalidRota⟩, ⟨⟨PySem.W.mg_of X G g_InvalidClaim, xc_InvalidClaim, kit_refF ic_InvalidRota tC_InvalidRota su_InvalidRota_InvalidRota su_InvalidClaim_InvalidRota⟩, ⟨⟨PySem.W.mg_of X G g_TooLarge, xc_TooLarge, kit_refF ic_InvalidRota tC_InvalidRota su_InvalidRota_InvalidRota su_TooLarge_InvalidRota⟩, ⟨⟨PySem.W.mg_of X G g_Undefined, xc_Undefined, kit_refF ic_InvalidRota tC_InvalidRota su_InvalidRota_InvalidRota su_Undefined_InvalidRota⟩, ⟨⟨PySem.W.mg_of X G g_NothingToUndo, xc_NothingToUndo, kit_refF ic_InvalidRota tC_InvalidRota su_InvalidRota_InvalidRota su_NothingToUndo_InvalidRota⟩, trivial⟩⟩⟩⟩⟩⟩⟩⟩⟩⟩⟩⟩⟩⟩⟩⟩⟩⟩⟩ (by decide +kernel)
    is_InvalidDislikes := tab_of (as := [a_InvalidNumber, a_InvalidTable, a_InvalidRow, a_InvalidRules, a_InvalidMachines, a_InvalidWants, a_InvalidRota, a_InvalidDislikes, a_InvalidLoads, a_InvalidFixed, a_InvalidSkills, a_InvalidPosts, a_InvalidJobs, a_InvalidPart, a_InvalidQuestion, a_InvalidClaim, a_TooLarge, a_Undefined, a_NothingToUndo]) (bs := [false, false, false, false, false, false, false, true, false, false, false, false, false, false, false, false, false, false, false]) ⟨⟨PySem.W.mg_of X G g_InvalidNumber, xc_InvalidNumber, kit_refF ic_InvalidDislikes tC_InvalidDislikes su_InvalidDislikes_InvalidDislikes su_InvalidNumber_InvalidDislikes⟩, ⟨⟨PySem.W.mg_of X G g_InvalidTable, xc_InvalidTable, kit_refF ic_InvalidDislikes tC_InvalidDislikes su_InvalidDislikes_InvalidDislikes su_InvalidTable_InvalidDislikes⟩, ⟨⟨PySem.W.mg_of X G g_InvalidRow, xc_InvalidRow, kit_refF ic_InvalidDislikes tC_InvalidDislikes su_InvalidDislikes_InvalidDislikes su_InvalidRow_InvalidDislikes⟩, ⟨⟨PySem.W.mg_of X G g_InvalidRules, xc_InvalidRules, kit_refF ic_InvalidDislikes tC_InvalidDislikes su_InvalidDislikes_InvalidDislikes su_InvalidRules_InvalidDislikes⟩, ⟨⟨PySem.W.mg_of X G g_InvalidMachines, xc_InvalidMachines, kit_refF ic_InvalidDislikes tC_InvalidDislikes su_InvalidDislikes_InvalidDislikes su_InvalidMachines_InvalidDislikes⟩, ⟨⟨PySem.W.mg_of X G g_InvalidWants, xc_InvalidWants, kit_refF ic_InvalidDislikes tC_InvalidDislikes su_InvalidDislikes_InvalidDislikes su_InvalidWants_InvalidDislikes⟩, ⟨⟨PySem.W.mg_of X G g_InvalidRota, xc_InvalidRota, kit_refF ic_InvalidDislikes tC_InvalidDislikes su_InvalidDislikes_InvalidDislikes su_InvalidRota_InvalidDislikes⟩, ⟨⟨PySem.W.mg_of X G g_InvalidDislikes, xc_InvalidDislikes, kit_refF ic_InvalidDislikes tC_InvalidDislikes su_InvalidDislikes_InvalidDislikes su_InvalidDislikes_InvalidDislikes⟩, ⟨⟨PySem.W.mg_of X G g_InvalidLoads, xc_InvalidLoads, kit_refF ic_InvalidDislikes tC_InvalidDislikes su_InvalidDislikes_InvalidDislikes su_InvalidLoads_InvalidDislikes⟩, ⟨⟨PySem.W.mg_of X G g_InvalidFixed, xc_InvalidFixed, kit_refF ic_InvalidDislikes tC_InvalidDislikes su_InvalidDislikes_InvalidDislikes su_InvalidFixed_InvalidDislikes⟩, ⟨⟨PySem.W.mg_of X G g_InvalidSkills, xc_InvalidSkills, kit_refF ic_InvalidDislikes tC_InvalidDislikes su_InvalidDislikes_InvalidDislikes su_InvalidSkills_InvalidDislikes⟩, ⟨⟨PySem.W.mg_of X G g_InvalidPosts, xc_InvalidPosts, kit_refF ic_InvalidDislikes tC_InvalidDislikes su_InvalidDislikes_InvalidDislikes su_InvalidPosts_InvalidDislikes⟩, ⟨⟨PySem.W.mg_of X G g_InvalidJobs, xc_InvalidJobs, kit_refF ic_InvalidDislikes tC_InvalidDislikes su_InvalidDislikes_InvalidDislikes su_InvalidJobs_InvalidDislikes⟩, ⟨⟨PySem.W.mg_of X G g_InvalidPart, xc_InvalidPart, kit_refF ic_InvalidDislikes tC_InvalidDislikes su_InvalidDislikes_InvalidDislikes su_InvalidPart_InvalidDislikes⟩, ⟨⟨PySem.W.mg_of X G g_InvalidQuestion, xc_InvalidQuestion, kit_refF ic_InvalidDislikes tC_InvalidDislikes su_InvalidDislikes_InvalidDislikes su_InvalidQuestion_InvalidDislikes⟩, ⟨⟨PySem.W.mg_of X G g_InvalidClaim, xc_InvalidClaim, kit_refF ic_InvalidDislikes tC_InvalidDislikes su_InvalidDislikes_InvalidDislikes su_InvalidClaim_InvalidDislikes⟩, ⟨⟨PySem.W.mg_of X G g_TooLarge, xc_TooLarge, kit_refF ic_InvalidDislikes tC_InvalidDislikes su_InvalidDislikes_InvalidDislikes su_TooLarge_InvalidDislikes⟩, ⟨⟨PySem.W.mg_of X G g_Undefined, xc_Undefined, kit_refF ic_InvalidDislikes tC_InvalidDislikes su_InvalidDislikes_InvalidDislikes su_Undefined_InvalidDislikes⟩, ⟨⟨PySem.W.mg_of X G g_NothingToUndo, xc_NothingToUndo, kit_refF ic_InvalidDislikes tC_InvalidDislikes su_InvalidDislikes_InvalidDislikes su_NothingToUndo_InvalidDislikes⟩, trivial⟩⟩⟩⟩⟩⟩⟩⟩⟩⟩⟩⟩⟩⟩⟩⟩⟩⟩⟩ (by decide +kernel)
    is_InvalidLoads := tab_of (as := [a_InvalidNumber, a_InvalidTable, a_InvalidRow, a_InvalidRules, a_InvalidMachines, a_InvalidWants, a_InvalidRota, a_InvalidDislikes, a_InvalidLoads, a_InvalidFixed, a_InvalidSkills, a_InvalidPosts, a_InvalidJobs, a_InvalidPart, a_InvalidQuestion, a_InvalidClaim, a_TooLarge, a_Undefined, a_NothingToUndo]) (bs := [false, false, false, false, false, false, false, false, true, false, false, false, false, false, false, false, false, false, false]) ⟨⟨PySem.W.mg_of X G g_InvalidNumber, xc_InvalidNumber, kit_refF ic_InvalidLoads tC_InvalidLoads su_InvalidLoads_InvalidLoads su_InvalidNumber_InvalidLoads⟩, ⟨⟨PySem.W.mg_of X G g_InvalidTable, xc_InvalidTable, kit_refF ic_InvalidLoads tC_InvalidLoads su_InvalidLoads_InvalidLoads su_InvalidTable_InvalidLoads⟩, ⟨⟨PySem.W.mg_of X G g_InvalidRow, xc_InvalidRow, kit_refF ic_InvalidLoads tC_InvalidLoads su_InvalidLoads_InvalidLoads su_InvalidRow_InvalidLoads⟩, ⟨⟨PySem.W.mg_of X G g_InvalidRules, xc_InvalidRules, kit_refF ic_InvalidLoads tC_InvalidLoads su_InvalidLoads_InvalidLoads su_InvalidRules_InvalidLoads⟩, ⟨⟨PySem.W.mg_of X G g_InvalidMachines, xc_InvalidMachines, kit_refF ic_InvalidLoads tC_InvalidLoads su_InvalidLoads_InvalidLoads su_InvalidMachines_InvalidLoads⟩, ⟨⟨PySem.W.mg_of X G g_InvalidWants, xc_InvalidWants, kit_refF ic_InvalidLoads tC_InvalidLoads su_InvalidLoads_InvalidLoads su_InvalidWants_InvalidLoads⟩, ⟨⟨PySem.W.mg_of X G g_InvalidRota, xc_InvalidRota, kit_refF ic_InvalidLoads tC_InvalidLoads su_InvalidLoads_InvalidLoads su_InvalidRota_InvalidLoads⟩, ⟨⟨PySem.W.mg_of X G g_InvalidDislikes, xc_InvalidDislikes, kit_refF ic_InvalidLoads tC_InvalidLoads su_InvalidLoads_InvalidLoads su_InvalidDislikes_InvalidLoads⟩, ⟨⟨PySem.W.mg_of X G g_InvalidLoads, xc_InvalidLoads, kit_refF ic_InvalidLoads tC_InvalidLoads su_InvalidLoads_InvalidLoads su_InvalidLoads_InvalidLoads⟩, ⟨⟨PySem.W.mg_of X G g_InvalidFixed, xc_InvalidFixed, kit_refF ic_InvalidLoads tC_InvalidLoads su_InvalidLoads_InvalidLoads su_InvalidFixed_InvalidLoads⟩, ⟨⟨PySem.W.mg_of X G g_InvalidSkills, xc_InvalidSkills, kit_refF ic_InvalidLoads tC_InvalidLoads su_InvalidLoads_InvalidLoads su_InvalidSkills_InvalidLoads⟩, ⟨⟨PySem.W.mg_of X G g_InvalidPosts, xc_InvalidPosts, kit_refF ic_InvalidLoads tC_InvalidLoads su_InvalidLoads_InvalidLoads su_InvalidPosts_InvalidLoads⟩, ⟨⟨PySem.W.mg_of X G g_InvalidJobs, xc_InvalidJobs, kit_refF ic_InvalidLoads tC_InvalidLoads su_InvalidLoads_InvalidLoads su_InvalidJobs_InvalidLoads⟩, ⟨⟨PySem.W.mg_of X G g_InvalidPart, xc_InvalidPart, kit_refF ic_InvalidLoads tC_InvalidLoads su_InvalidLoads_InvalidLoads su_InvalidPart_InvalidLoads⟩, ⟨⟨PySem.W.mg_of X G g_InvalidQuestion, xc_InvalidQuestion, kit_refF ic_InvalidLoads tC_InvalidLoads su_InvalidLoads_InvalidLoads su_InvalidQuestion_InvalidLoads⟩, ⟨⟨PySem.W.mg_of X G g_InvalidClaim, xc_InvalidClaim, kit_refF ic_InvalidLoads tC_InvalidLoads su_InvalidLoads_InvalidLoads su_InvalidClaim_InvalidLoads⟩, ⟨⟨PySem.W.mg_of X G g_TooLarge, xc_TooLarge, kit_refF ic_InvalidLoads tC_InvalidLoads su_InvalidLoads_InvalidLoads su_TooLarge_InvalidLoads⟩, ⟨⟨PySem.W.mg_of X G g_Undefined, xc_Undefined, kit_refF ic_InvalidLoads tC_InvalidLoads su_InvalidLoads_InvalidLoads su_Undefined_InvalidLoads⟩, ⟨⟨PySem.W.mg_of X G g_NothingToUndo, xc_NothingToUndo, kit_refF ic_InvalidLoads tC_InvalidLoads su_InvalidLoads_InvalidLoads su_NothingToUndo_InvalidLoads⟩, trivial⟩⟩⟩⟩⟩⟩⟩⟩⟩⟩⟩⟩⟩⟩⟩⟩⟩⟩⟩ (by decide +kernel)
    is_InvalidFixed := tab_of (as := [a_InvalidNumber, a_InvalidTable, a_InvalidRow, a_InvalidRules, a_InvalidMachines, a_InvalidWants, a_InvalidRota, a_InvalidDislikes, a_InvalidLoads, a_InvalidFixed, a_InvalidSkills, a_InvalidPosts, a_InvalidJobs, a_InvalidPart, a_InvalidQuestion, a_InvalidClaim, a_TooLarge, a_Undefined, a_NothingToUndo]) (bs := [false, false, false, false, false, false, false, false, false, true, false, false, false, false, false, false, false, false, false]) ⟨⟨PySem.W.mg_of X G g_InvalidNumber, xc_InvalidNumber, kit_refF ic_InvalidFixed tC_InvalidFixed su_InvalidFixed_InvalidFixed su_InvalidNumber_InvalidFixed⟩, ⟨⟨PySem.W.mg_of X G g_InvalidTable, xc_InvalidTable, kit_refF ic_InvalidFixed tC_InvalidFixed su_InvalidFixed_InvalidFixed su_InvalidTable_InvalidFixed⟩, ⟨⟨PySem.W.mg_of X G g_InvalidRow, xc_InvalidRow, kit_refF ic_InvalidFixed tC_InvalidFixed su_InvalidFixed_InvalidFixed su_InvalidRow_InvalidFixed⟩, ⟨⟨PySem.W.mg_of X G g_InvalidRules, xc_InvalidRules, kit_refF ic_InvalidFixed tC_InvalidFixed su_InvalidFixed_InvalidFixed su_InvalidRules_InvalidFixed⟩, ⟨⟨PySem.W.mg_of X G g_InvalidMachines, xc_InvalidMachines, kit_refF ic_InvalidFixed tC_InvalidFixed su_InvalidFixed_InvalidFixed su_InvalidMachines_InvalidFixed⟩, ⟨⟨PySem.W.mg_of X G g_InvalidWants, xc_InvalidWants, kit_refF ic_InvalidFixed tC_InvalidFixed su_InvalidFixed_InvalidFixed su_InvalidWants_InvalidFixed⟩, ⟨⟨PySem.W.mg_of X G g_InvalidRota, xc_InvalidRota, kit_refF ic_InvalidFixed tC_InvalidFixed su_InvalidFixed_InvalidFixed su_InvalidRota_InvalidFixed⟩, ⟨⟨PySem.W.mg_of X G g_InvalidDislikes, xc_InvalidDislikes, kit_refF ic_InvalidFixed tC_InvalidFixed su_InvalidFixed_InvalidFixed su_InvalidDislikes_InvalidFixed⟩, ⟨⟨PySem.W.mg_of X G g_InvalidLoads, xc_InvalidLoads, kit_refF ic_InvalidFixed tC_InvalidFixed su_InvalidFixed_InvalidFixed su_InvalidLoads_InvalidFixed⟩, ⟨⟨PySem.W.mg_of X G g_InvalidFixed, xc_InvalidFixed, kit_refF ic_InvalidFixed tC_InvalidFixed su_InvalidFixed_InvalidFixed su_InvalidFixed_InvalidFixed⟩, ⟨⟨PySem.W.mg_of X G g_InvalidSkills, xc_InvalidSkills, kit_refF ic_InvalidFixed tC_InvalidFixed su_InvalidFixed_InvalidFixed su_InvalidSkills_InvalidFixed⟩, ⟨⟨PySem.W.mg_of X G g_InvalidPosts, xc_InvalidPosts, kit_refF ic_InvalidFixed tC_InvalidFixed su_InvalidFixed_InvalidFixed su_InvalidPosts_InvalidFixed⟩, ⟨⟨PySem.W.mg_of X G g_InvalidJobs, xc_InvalidJobs, kit_refF ic_InvalidFixed tC_InvalidFixed su_InvalidFixed_InvalidFixed su_InvalidJobs_InvalidFixed⟩, ⟨⟨PySem.W.mg_of X G g_InvalidPart, xc_InvalidPart, kit_refF ic_InvalidFixed tC_InvalidFixed su_InvalidFixed_InvalidFixed su_InvalidPart_InvalidFixed⟩, ⟨⟨PySem.W.mg_of X G g_InvalidQuestion, xc_InvalidQuestion, kit_refF ic_InvalidFixed tC_InvalidFixed su_InvalidFixed_InvalidFixed su_InvalidQuestion_InvalidFixed⟩, ⟨⟨PySem.W.mg_of X G g_InvalidClaim, xc_InvalidClaim, kit_refF ic_InvalidFixed tC_InvalidFixed su_InvalidFixed_InvalidFixed su_InvalidClaim_InvalidFixed⟩, ⟨⟨PySem.W.mg_of X G g_TooLarge, xc_TooLarge, kit_refF ic_InvalidFixed tC_InvalidFixed su_InvalidFixed_InvalidFixed su_TooLarge_InvalidFixed⟩, ⟨⟨PySem.W.mg_of X G g_Undefined, xc_Undefined, kit_refF ic_InvalidFixed tC_InvalidFixed su_InvalidFixed_InvalidFixed su_Undefined_InvalidFixed⟩, ⟨⟨PySem.W.mg_of X G g_NothingToUndo, xc_NothingToUndo, kit_refF ic_InvalidFixed tC_InvalidFixed su_InvalidFixed_InvalidFixed su_NothingToUndo_InvalidFixed⟩, trivial⟩⟩⟩⟩⟩⟩⟩⟩⟩⟩⟩⟩⟩⟩⟩⟩⟩⟩⟩ (by decide +kernel)
    is_InvalidSkills := tab_of (as := [a_InvalidNumber, a_InvalidTable, a_InvalidRow, a_InvalidRules, a_InvalidMachines, a_InvalidWants, a_InvalidRota, a_InvalidDislikes, a_InvalidLoads, a_InvalidFixed, a_InvalidSkills, a_InvalidPosts, a_InvalidJobs, a_InvalidPart, a_InvalidQuestion, a_InvalidClaim, a_TooLarge, a_Undefined, a_NothingToUndo]) (bs := [false, false, false, false, false, false, false, false, false, false, true, false, false, false, false, false, false, false, false]) ⟨⟨PySem.W.mg_of X G g_InvalidNumber, xc_InvalidNumber, kit_refF ic_InvalidSkills tC_InvalidSkills su_InvalidSkills_InvalidSkills su_InvalidNumber_InvalidSkills⟩, ⟨⟨PySem.W.mg_of X G g_InvalidTable, xc_InvalidTable, kit_refF ic_InvalidSkills tC_InvalidSkills su_InvalidSkills_InvalidSkills su_InvalidTable_InvalidSkills⟩, ⟨⟨PySem.W.mg_of X G g_InvalidRow, xc_InvalidRow, kit_refF ic_InvalidSkills tC_InvalidSkills su_InvalidSkills_InvalidSkills su_InvalidRow_InvalidSkills⟩, ⟨⟨PySem.W.mg_of X G g_InvalidRules, xc_InvalidRules, kit_refF ic_InvalidSkills tC_InvalidSkills su_InvalidSkills_InvalidSkills su_InvalidRules_InvalidSkills⟩, ⟨⟨PySem.W.mg_of X G g_InvalidMachines, xc_InvalidMachines, kit_refF ic_InvalidSkills tC_InvalidSkills su_InvalidSkills_InvalidSkills su_InvalidMachines_InvalidSkills⟩, ⟨⟨PySem.W.mg_of X G g_InvalidWants, xc_InvalidWants, kit_refF ic_InvalidSkills tC_InvalidSkills su_InvalidSkills_InvalidSkills su_InvalidWants_InvalidSkills⟩, ⟨⟨PySem.W.mg_of X G g_InvalidRota, xc_InvalidRota, kit_refF ic_InvalidSkills tC_InvalidSkills su_InvalidSkills_InvalidSkills su_InvalidRota_InvalidSkills⟩, ⟨⟨PySem.W.mg_of X G g_InvalidDislikes, xc_InvalidDislikes, kit_refF ic_InvalidSkills tC_InvalidSkills su_InvalidSkills_InvalidSkills su_InvalidDislikes_InvalidSkills⟩, ⟨⟨PySem.W.mg_of X G g_InvalidLoads, xc_InvalidLoads, kit_refF ic_InvalidSkills tC_InvalidSkills su_InvalidSkills_InvalidSkills su_InvalidLoads_InvalidSkills⟩, ⟨⟨PySem.W.mg_of X G g_InvalidFixed, xc_InvalidFixed, kit_refF ic_InvalidSkills tC_InvalidSkills su_InvalidSkills_InvalidSkills su_InvalidFixed_InvalidSkills⟩, ⟨⟨PySem.W.mg_of X G g_InvalidSkills, xc_InvalidSkills, kit_refF ic_InvalidSkills tC_InvalidSkills su_InvalidSkills_InvalidSkills su_InvalidSkills_InvalidSkills⟩, ⟨⟨PySem.W.mg_of X G g_InvalidPosts, xc_InvalidPosts, kit_refF ic_InvalidSkills tC_InvalidSkills su_InvalidSkills_InvalidSkills su_InvalidPosts_InvalidSkills⟩, ⟨⟨PySem.W.mg_of X G g_InvalidJobs, xc_InvalidJobs, kit_refF ic_InvalidSkills tC_InvalidSkills su_InvalidSkills_InvalidSkills su_InvalidJobs_InvalidSkills⟩, ⟨⟨PySem.W.mg_of X G g_InvalidPart, xc_InvalidPart, kit_refF ic_InvalidSkills tC_InvalidSkills su_InvalidSkills_InvalidSkills su_InvalidPart_InvalidSkills⟩, ⟨⟨PySem.W.mg_of X G g_InvalidQuestion, xc_InvalidQuestion, kit_refF ic_InvalidSkills tC_InvalidSkills su_InvalidSkills_InvalidSkills su_InvalidQuestion_InvalidSkills⟩, ⟨⟨PySem.W.mg_of X G g_InvalidClaim, xc_InvalidClaim, kit_refF ic_InvalidSkills tC_InvalidSkills su_InvalidSkills_InvalidSkills su_InvalidClaim_InvalidSkills⟩, ⟨⟨PySem.W.mg_of X G g_TooLarge, xc_TooLarge, kit_refF ic_InvalidSkills tC_InvalidSkills su_InvalidSkills_InvalidSkills su_TooLarge_InvalidSkills⟩, ⟨⟨PySem.W.mg_of X G g_Undefined, xc_Undefined, kit_refF ic_InvalidSkills tC_InvalidSkills su_InvalidSkills_InvalidSkills su_Undefined_InvalidSkills⟩, ⟨⟨PySem.W.mg_of X G g_NothingToUndo, xc_NothingToUndo, kit_refF ic_InvalidSkills tC_InvalidSkills su_InvalidSkills_InvalidSkills su_NothingToUndo_InvalidSkills⟩, trivial⟩⟩⟩⟩⟩⟩⟩⟩⟩⟩⟩⟩⟩⟩⟩⟩⟩⟩⟩ (by decide +kernel)
    is_InvalidPosts := tab_of (as := [a_InvalidNumber, a_InvalidTable, a_InvalidRow, a_InvalidRules, a_InvalidMachines, a_InvalidWants, a_InvalidRota, a_InvalidDislikes, a_InvalidLoads, a_InvalidFixed, a_InvalidSkills, a_InvalidPosts, a_InvalidJobs, a_InvalidPart, a_InvalidQuestion, a_InvalidClaim, a_TooLarge, a_Undefined, a_NothingToUndo]) (bs := [false, false, false, false, false, false, false, false, false, false, false, true, false, false, false, false, false, false, false]) ⟨⟨PySem.W.mg_of X G g_InvalidNumber, xc_InvalidNumber, kit_refF ic_InvalidPosts tC_InvalidPosts su_InvalidPosts_InvalidPosts su_InvalidNumber_InvalidPosts⟩, ⟨⟨PySem.W.mg_of X G g_InvalidTable, xc_InvalidTable, kit_refF ic_InvalidPosts tC_InvalidPosts su_InvalidPosts_InvalidPosts su_InvalidTable_InvalidPosts⟩, ⟨⟨PySem.W.mg_of X G g_InvalidRow, xc_InvalidRow, kit_refF ic_InvalidPosts tC_InvalidPosts su_InvalidPosts_InvalidPosts su_InvalidRow_InvalidPosts⟩, ⟨⟨PySem.W.mg_of X G g_InvalidRules, xc_InvalidRules, kit_refF ic_InvalidPosts tC_InvalidPosts su_InvalidPosts_InvalidPosts su_InvalidRules_InvalidPosts⟩, ⟨⟨PySem.W.mg_of X G g_InvalidMachines, xc_InvalidMachines, kit_refF ic_InvalidPosts tC_InvalidPosts su_InvalidPosts_InvalidPosts su_InvalidMachines_InvalidPosts⟩, ⟨⟨PySem.W.mg_of X G g_InvalidWants, xc_InvalidWants, kit_refF ic_InvalidPosts tC_InvalidPosts su_InvalidPosts_InvalidPosts su_InvalidWants_InvalidPosts⟩, ⟨⟨PySem.W.mg_of X G g_InvalidRota, xc_InvalidRota, kit_refF ic_InvalidPosts tC_InvalidPosts su_InvalidPosts_InvalidPosts su_InvalidRota_InvalidPosts⟩, ⟨⟨PySem.W.mg_of X G g_InvalidDislikes, xc_InvalidDislikes, kit_refF ic_InvalidPosts tC_InvalidPosts su_InvalidPosts_InvalidPosts su_InvalidDislikes_InvalidPosts⟩, ⟨⟨PySem.W.mg_of X G g_InvalidLoads, xc_InvalidLoads, kit_refF ic_InvalidPosts tC_InvalidPosts su_InvalidPosts_InvalidPosts su_InvalidLoads_InvalidPosts⟩, ⟨⟨PySem.W.mg_of X G g_InvalidFixed, xc_InvalidFixed, kit_refF ic_InvalidPosts tC_InvalidPosts su_InvalidPosts_InvalidPosts su_InvalidFixed_InvalidPosts⟩, ⟨⟨PySem.W.mg_of X G g_InvalidSkills, xc_InvalidSkills, kit_refF ic_InvalidPosts tC_InvalidPosts su_InvalidPosts_InvalidPosts su_InvalidSkills_InvalidPosts⟩, ⟨⟨PySem.W.mg_of X G g_InvalidPosts, xc_InvalidPosts, kit_refF ic_InvalidPosts tC_InvalidPosts su_InvalidPosts_InvalidPosts su_InvalidPosts_InvalidPosts⟩, ⟨⟨PySem.W.mg_of X G g_InvalidJobs, xc_InvalidJobs, kit_refF ic_InvalidPosts tC_InvalidPosts su_InvalidPosts_InvalidPosts su_InvalidJobs_InvalidPosts⟩, ⟨⟨PySem.W.mg_of X G g_InvalidPart, xc_InvalidPart, kit_refF ic_InvalidPosts tC_InvalidPosts su_InvalidPosts_InvalidPosts su_InvalidPart_InvalidPosts⟩, ⟨⟨PySem.W.mg_of X G g_InvalidQuestion, xc_InvalidQuestion, kit_refF ic_InvalidPosts tC_InvalidPosts su_InvalidPosts_InvalidPosts su_InvalidQuestion_InvalidPosts⟩, ⟨⟨PySem.W.mg_of X G g_InvalidClaim, xc_InvalidClaim, kit_refF ic_InvalidPosts tC_InvalidPosts su_InvalidPosts_InvalidPosts su_InvalidClaim_InvalidPosts⟩, ⟨⟨PySem.W.mg_of X G g_TooLarge, xc_TooLarge, kit_refF ic_InvalidPosts tC_InvalidPosts su_InvalidPosts_InvalidPosts su_TooLarge_InvalidPosts⟩, ⟨⟨PySem.W.mg_of X G g_Undefined, xc_Undefined, kit_refF ic_InvalidPosts tC_InvalidPosts su_InvalidPosts_InvalidPosts su_Undefined_InvalidPosts⟩, ⟨⟨PySem.W.mg_of X G g_NothingToUndo, xc_NothingToUndo, kit_refF ic_InvalidPosts tC_InvalidPosts su_InvalidPosts_InvalidPosts su_NothingToUndo_InvalidPosts⟩, trivial⟩⟩⟩⟩⟩⟩⟩⟩⟩⟩⟩⟩⟩⟩⟩⟩⟩⟩⟩ (by decide +kernel)
    is_InvalidJobs := tab_of (as := [a_InvalidNumber, a_InvalidTable, a_InvalidRow, a_InvalidRules, a_InvalidMachines, a_InvalidWants, a_InvalidRota, a_InvalidDislikes, a_InvalidLoads, a_InvalidFixed, a_InvalidSkills, a_InvalidPosts, a_InvalidJobs, a_InvalidPart, a_InvalidQuestion, a_InvalidClaim, a_TooLarge, a_Undefined, a_NothingToUndo]) (bs := [false, false, false, false, false, false, false, false, false, false, false, false, true, false, false, false, false, false, false]) ⟨⟨PySem.W.mg_of X G g_InvalidNumber, xc_InvalidNumber, kit_refF ic_InvalidJobs tC_InvalidJobs su_InvalidJobs_InvalidJobs su_InvalidNumber_InvalidJobs⟩, ⟨⟨PySem.W.mg_of X G g_InvalidTable, xc_InvalidTable, kit_refF ic_InvalidJobs tC_InvalidJobs su_InvalidJobs_InvalidJobs su_InvalidTable_InvalidJobs⟩, ⟨⟨PySem.W.mg_of X G g_InvalidRow, xc_InvalidRow, kit_refF ic_InvalidJobs tC_InvalidJobs su_InvalidJobs_InvalidJobs su_InvalidRow_InvalidJobs⟩, ⟨⟨PySem.W.mg_of X G g_InvalidRules, xc_InvalidRules, kit_refF ic_InvalidJobs tC_InvalidJobs su_InvalidJobs_InvalidJobs su_InvalidRules_InvalidJobs⟩, ⟨⟨PySem.W.mg_of X G g_InvalidMachines, xc_InvalidMachines, kit_refF ic_InvalidJobs tC_InvalidJobs su_InvalidJobs_InvalidJobs su_InvalidMachines_InvalidJobs⟩, ⟨⟨PySem.W.mg_of X G g_InvalidWants, xc_InvalidWants, kit_refF ic_InvalidJobs tC_InvalidJobs su_InvalidJobs_InvalidJobs su_InvalidWants_InvalidJobs⟩, ⟨⟨PySem.W.mg_of X G g_InvalidRota, xc_InvalidRota, kit_refF ic_InvalidJobs tC_InvalidJobs su_InvalidJobs_InvalidJobs su_InvalidRota_InvalidJobs⟩, ⟨⟨PySem.W.mg_of X G g_InvalidDislikes, xc_InvalidDislikes, kit_refF ic_InvalidJobs tC_InvalidJobs su_InvalidJobs_InvalidJobs su_InvalidDislikes_InvalidJobs⟩, ⟨⟨PySem.W.mg_of X G g_InvalidLoads, xc_InvalidLoads, kit_refF ic_InvalidJobs tC_InvalidJobs su_InvalidJobs_InvalidJobs su_InvalidLoads_InvalidJobs⟩, ⟨⟨PySem.W.mg_of X G g_InvalidFixed, xc_InvalidFixed, kit_refF ic_InvalidJobs tC_InvalidJobs su_InvalidJobs_InvalidJobs su_InvalidFixed_InvalidJobs⟩, ⟨⟨PySem.W.mg_of X G g_InvalidSkills, xc_InvalidSkills, kit_refF ic_InvalidJobs tC_InvalidJobs su_InvalidJobs_InvalidJobs su_InvalidSkills_InvalidJobs⟩, ⟨⟨PySem.W.mg_of X G g_InvalidPosts, xc_InvalidPosts, kit_refF ic_InvalidJobs tC_InvalidJobs su_InvalidJobs_InvalidJobs su_InvalidPosts_InvalidJobs⟩, ⟨⟨PySem.W.mg_of X G g_InvalidJobs, xc_InvalidJobs, kit_refF ic_InvalidJobs tC_InvalidJobs su_InvalidJobs_InvalidJobs su_InvalidJobs_InvalidJobs⟩, ⟨⟨PySem.W.mg_of X G g_InvalidPart, xc_InvalidPart, kit_refF ic_InvalidJobs tC_InvalidJobs su_InvalidJobs_InvalidJobs su_InvalidPart_InvalidJobs⟩, ⟨⟨PySem.W.mg_of X G g_InvalidQuestion, xc_InvalidQuestion, kit_refF ic_InvalidJobs tC_InvalidJobs su_InvalidJobs_InvalidJobs su_InvalidQuestion_InvalidJobs⟩, ⟨⟨PySem.W.mg_of X G g_InvalidClaim, xc_InvalidClaim, kit_refF ic_InvalidJobs tC_InvalidJobs su_InvalidJobs_InvalidJobs su_InvalidClaim_InvalidJobs⟩, ⟨⟨PySem.W.mg_of X G g_TooLarge, xc_TooLarge, kit_refF ic_InvalidJobs tC_InvalidJobs su_InvalidJobs_InvalidJobs su_TooLarge_InvalidJobs⟩, ⟨⟨PySem.W.mg_of X G g_Undefined, xc_Undefined, kit_refF ic_InvalidJobs tC_InvalidJobs su_InvalidJobs_InvalidJobs su_Undefined_InvalidJobs⟩, ⟨⟨PySem.W.mg_of X G g_NothingToUndo, xc_NothingToUndo, kit_refF ic_InvalidJobs tC_InvalidJobs su_InvalidJobs_InvalidJobs su_NothingToUndo_InvalidJobs⟩, trivial⟩⟩⟩⟩⟩⟩⟩⟩⟩⟩⟩⟩⟩⟩⟩⟩⟩⟩⟩ (by decide +kernel)
    is_InvalidPart := tab_of (as := [a_InvalidNumber, a_InvalidTable, a_InvalidRow, a_InvalidRules, a_InvalidMachines, a_InvalidWants, a_InvalidRota, a_InvalidDislikes, a_InvalidLoads, a_InvalidFixed, a_InvalidSkills, a_InvalidPosts, a_InvalidJobs, a_InvalidPart, a_InvalidQuestion, a_InvalidClaim, a_TooLarge, a_Undefined, a_NothingToUndo]) (bs := [false, false, false, false, false, false, false, false, false, false, false, false, false, true, false, false, false, false, false]) ⟨⟨PySem.W.mg_of X G g_InvalidNumber, xc_InvalidNumber, kit_refF ic_InvalidPart tC_InvalidPart su_InvalidPart_InvalidPart su_InvalidNumber_InvalidPart⟩, ⟨⟨PySem.W.mg_of X G g_InvalidTable, xc_InvalidTable, kit_refF ic_InvalidPart tC_InvalidPart su_InvalidPart_InvalidPart su_InvalidTable_InvalidPart⟩, ⟨⟨PySem.W.mg_of X G g_InvalidRow, xc_InvalidRow, kit_refF ic_InvalidPart tC_InvalidPart su_InvalidPart_InvalidPart su_InvalidRow_InvalidPart⟩, ⟨⟨PySem.W.mg_of X G g_InvalidRules, xc_InvalidRules, kit_refF ic_InvalidPart tC_InvalidPart su_InvalidPart_InvalidPart su_InvalidRules_InvalidPart⟩, ⟨⟨PySem.W.mg_of X G g_InvalidMachines, xc_InvalidMachines, kit_refF ic_InvalidPart tC_InvalidPart su_InvalidPart_InvalidPart su_InvalidMachines_InvalidPart⟩, ⟨⟨PySem.W.mg_of X G g_InvalidWants, xc_InvalidWants, kit_refF ic_InvalidPart tC_InvalidPart su_InvalidPart_InvalidPart su_InvalidWants_InvalidPart⟩, ⟨⟨PySem.W.mg_of X G g_InvalidRota, xc_InvalidRota, kit_refF ic_InvalidPart tC_InvalidPart su_InvalidPart_InvalidPart su_InvalidRota_InvalidPart⟩, ⟨⟨PySem.W.mg_of X G g_InvalidDislikes, xc_InvalidDislikes, kit_refF ic_InvalidPart tC_InvalidPart su_InvalidPart_InvalidPart su_InvalidDislikes_InvalidPart⟩, ⟨⟨PySem.W.mg_of X G g_InvalidLoads, xc_InvalidLoads, kit_refF ic_InvalidPart tC_InvalidPart su_InvalidPart_InvalidPart su_InvalidLoads_InvalidPart⟩, ⟨⟨PySem.W.mg_of X G g_InvalidFixed, xc_InvalidFixed, kit_refF ic_InvalidPart tC_InvalidPart su_InvalidPart_InvalidPart su_InvalidFixed_InvalidPart⟩, ⟨⟨PySem.W.mg_of X G g_InvalidSkills, xc_InvalidSkills, kit_refF ic_InvalidPart tC_InvalidPart su_InvalidPart_InvalidPart su_InvalidSkills_InvalidPart⟩, ⟨⟨PySem.W.mg_of X G g_InvalidPosts, xc_InvalidPosts, kit_refF ic_InvalidPart tC_InvalidPart su_InvalidPart_InvalidPart su_InvalidPosts_InvalidPart⟩, ⟨⟨PySem.W.mg_of X G g_InvalidJobs, xc_InvalidJobs, kit_refF ic_InvalidPart tC_InvalidPart su_InvalidPart_InvalidPart su_InvalidJobs_InvalidPart⟩, ⟨⟨PySem.W.mg_of X G g_InvalidPart, xc_InvalidPart, kit_refF ic_InvalidPart tC_InvalidPart su_InvalidPart_InvalidPart su_InvalidPart_InvalidPart⟩, ⟨⟨PySem.W.mg_of X G g_InvalidQuestion, xc_InvalidQuestion, kit_refF ic_InvalidPart tC_InvalidPart su_InvalidPart_InvalidPart su_InvalidQuestion_InvalidPart⟩, ⟨⟨PySem.W.mg_of X G g_InvalidClaim, xc_InvalidClaim, kit_refF ic_InvalidPart tC_InvalidPart su_InvalidPart_InvalidPart su_InvalidClaim_InvalidPart⟩, ⟨⟨PySem.W.mg_of X G g_TooLarge, xc_TooLarge, kit_refF ic_InvalidPart tC_InvalidPart su_InvalidPart_InvalidPart su_TooLarge_InvalidPart⟩, ⟨⟨PySem.W.mg_of X G g_Undefined, xc_Undefined, kit_refF ic_InvalidPart tC_InvalidPart su_InvalidPart_InvalidPart su_Undefined_InvalidPart⟩, ⟨⟨PySem.W.mg_of X G g_NothingToUndo, xc_NothingToUndo, kit_refF ic_InvalidPart tC_InvalidPart su_InvalidPart_InvalidPart su_NothingToUndo_InvalidPart⟩, trivial⟩⟩⟩⟩⟩⟩⟩⟩⟩⟩⟩⟩⟩⟩⟩⟩⟩⟩⟩ (by decide +kernel)
    is_InvalidQuestion := tab_of (as := [a_InvalidNumber, a_InvalidTable, a_InvalidRow, a_InvalidRules, a_InvalidMachines, a_InvalidWants, a_InvalidRota, a_InvalidDislikes, a_InvalidLoads, a_InvalidFixed, a_InvalidSkills, a_InvalidPosts, a_InvalidJobs, a_InvalidPart, a_InvalidQuestion, a_InvalidClaim, a_TooLarge, a_Undefined, a_NothingToUndo]) (bs := [false, false, false, false, false, false, false, false, false, false, false, false, false, false, true, false, false, false, false]) ⟨⟨PySem.W.mg_of X G g_InvalidNumber, xc_InvalidNumber, kit_refF ic_InvalidQuestion tC_InvalidQuestion su_InvalidQuestion_InvalidQuestion su_InvalidNumber_InvalidQuestion⟩, ⟨⟨PySem.W.mg_of X G g_InvalidTable, xc_InvalidTable, kit_refF ic_InvalidQuestion tC_InvalidQuestion su_InvalidQuestion_InvalidQuestion su_InvalidTable_InvalidQuestion⟩, ⟨⟨PySem.W.mg_of X G g_InvalidRow, xc_InvalidRow, kit_refF ic_InvalidQuestion tC_InvalidQuestion su_InvalidQuestion_InvalidQuestion su_InvalidRow_InvalidQuestion⟩, ⟨⟨PySem.W.mg_of X G g_InvalidRules, xc_InvalidRules, kit_refF ic_InvalidQuestion tC_InvalidQuestion su_InvalidQuestion_InvalidQuestion su_InvalidRules_InvalidQuestion⟩, ⟨⟨PySem.W.mg_of X G g_InvalidMachines, xc_InvalidMachines, kit_refF ic_InvalidQuestion tC_InvalidQuestion su_InvalidQuestion_InvalidQuestion su_InvalidMachines_InvalidQuestion⟩, ⟨⟨PySem.W.mg_of X G g_InvalidWants, xc_InvalidWants, kit_refF ic_InvalidQuestion tC_InvalidQuestion su_InvalidQuestion_InvalidQuestion su_InvalidWants_InvalidQuestion⟩, ⟨⟨PySem.W.mg_of X G g_InvalidRota, xc_InvalidRota, kit_refF ic_InvalidQuestion tC_InvalidQuestion su_InvalidQuestion_InvalidQuestion su_InvalidRota_InvalidQuestion⟩, ⟨⟨PySem.W.mg_of X G g_InvalidDislikes, xc_InvalidDislikes, kit_refF ic_InvalidQuestion tC_InvalidQuestion su_InvalidQuestion_InvalidQuestion su_InvalidDislikes_InvalidQuestion⟩, ⟨⟨PySem.W.mg_of X G g_InvalidLoads, xc_InvalidLoads, kit_refF ic_InvalidQuestion tC_InvalidQuestion su_InvalidQuestion_InvalidQuestion su_InvalidLoads_InvalidQuestion⟩, ⟨⟨PySem.W.mg_of X G g_InvalidFixed, xc_InvalidFixed, kit_refF ic_InvalidQuestion tC_InvalidQuestion su_InvalidQuestion_InvalidQuestion su_InvalidFixed_InvalidQuestion⟩, ⟨⟨PySem.W.mg_of X G g_InvalidSkills, xc_InvalidSkills, kit_refF ic_InvalidQuestion tC_InvalidQuestion su_InvalidQuestion_InvalidQuestion su_InvalidSkills_InvalidQuestion⟩, ⟨⟨PySem.W.mg_of X G g_InvalidPosts, xc_InvalidPosts, kit_refF ic_InvalidQuestion tC_InvalidQuestion su_InvalidQuestion_InvalidQuestion su_InvalidPosts_InvalidQuestion⟩, ⟨⟨PySem.W.mg_of X G g_InvalidJobs, xc_InvalidJobs, kit_refF ic_InvalidQuestion tC_InvalidQuestion su_InvalidQuestion_InvalidQuestion su_InvalidJobs_InvalidQuestion⟩, ⟨⟨PySem.W.mg_of X G g_InvalidPart, xc_InvalidPart, kit_refF ic_InvalidQuestion tC_InvalidQuestion su_InvalidQuestion_InvalidQuestion su_InvalidPart_InvalidQuestion⟩, ⟨⟨PySem.W.mg_of X G g_InvalidQuestion, xc_InvalidQuestion, kit_refF ic_InvalidQuestion tC_InvalidQuestion su_InvalidQuestion_InvalidQuestion su_InvalidQuestion_InvalidQuestion⟩, ⟨⟨PySem.W.mg_of X G g_InvalidClaim, xc_InvalidClaim, kit_refF ic_InvalidQuestion tC_InvalidQuestion su_InvalidQuestion_InvalidQuestion su_InvalidClaim_InvalidQuestion⟩, ⟨⟨PySem.W.mg_of X G g_TooLarge, xc_TooLarge, kit_refF ic_InvalidQuestion tC_InvalidQuestion su_InvalidQuestion_InvalidQuestion su_TooLarge_InvalidQuestion⟩, ⟨⟨PySem.W.mg_of X G g_Undefined, xc_Undefined, kit_refF ic_InvalidQuestion tC_InvalidQuestion su_InvalidQuestion_InvalidQuestion su_Undefined_InvalidQuestion⟩, ⟨⟨PySem.W.mg_of X G g_NothingToUndo, xc_NothingToUndo, kit_refF ic_InvalidQuestion tC_InvalidQuestion su_InvalidQuestion_InvalidQuestion su_NothingToUndo_InvalidQuestion⟩, trivial⟩⟩⟩⟩⟩⟩⟩⟩⟩⟩⟩⟩⟩⟩⟩⟩⟩⟩⟩ (by decide +kernel)
    is_InvalidClaim := tab_of (as := [a_InvalidNumber, a_InvalidTable, a_InvalidRow, a_InvalidRules, a_InvalidMachines, a_InvalidWants, a_InvalidRota, a_InvalidDislikes, a_InvalidLoads, a_InvalidFixed, a_InvalidSkills, a_InvalidPosts, a_InvalidJobs, a_InvalidPart, a_InvalidQuestion, a_InvalidClaim, a_TooLarge, a_Undefined, a_NothingToUndo]) (bs := [false, false, false, false, false, false, false, false, false, false, false, false, false, false, false, true, false, false, false]) ⟨⟨PySem.W.mg_of X G g_InvalidNumber, xc_InvalidNumber, kit_refF ic_InvalidClaim tC_InvalidClaim su_InvalidClaim_InvalidClaim su_InvalidNumber_InvalidClaim⟩, ⟨⟨PySem.W.mg_of X G g_InvalidTable, xc_InvalidTable, kit_refF ic_InvalidClaim tC_InvalidClaim su_InvalidClaim_InvalidClaim su_InvalidTable_InvalidClaim⟩, ⟨⟨PySem.W.mg_of X G g_InvalidRow, xc_InvalidRow, kit_refF ic_InvalidClaim tC_InvalidClaim su_InvalidClaim_InvalidClaim su_InvalidRow_InvalidClaim⟩, ⟨⟨PySem.W.mg_of X G g_InvalidRules, xc_InvalidRules, kit_refF ic_InvalidClaim tC_InvalidClaim su_InvalidClaim_InvalidClaim su_InvalidRules_InvalidClaim⟩, ⟨⟨PySem.W.mg_of X G g_InvalidMachines, xc_InvalidMachines, kit_refF ic_InvalidClaim tC_InvalidClaim su_InvalidClaim_InvalidClaim su_InvalidMachines_InvalidClaim⟩, ⟨⟨PySem.W.mg_of X G g_InvalidWants, xc_InvalidWants, kit_refF ic_InvalidClaim tC_InvalidClaim su_InvalidClaim_InvalidClaim su_InvalidWants_InvalidClaim⟩, ⟨⟨PySem.W.mg_of X G g_InvalidRota, xc_InvalidRota, kit_refF ic_InvalidClaim tC_InvalidClaim su_InvalidClaim_InvalidClaim su_InvalidRota_InvalidClaim⟩, ⟨⟨PySem.W.mg_of X G g_InvalidDislikes, xc_InvalidDislikes, kit_refF ic_InvalidClaim tC_InvalidClaim su_InvalidClaim_InvalidClaim su_InvalidDislikes_InvalidClaim⟩, ⟨⟨PySem.W.mg_of X G g_InvalidLoads, xc_InvalidLoads, kit_refF ic_InvalidClaim tC_InvalidClaim su_InvalidClaim_InvalidClaim su_InvalidLoads_InvalidClaim⟩, ⟨⟨PySem.W.mg_of X G g_InvalidFixed, xc_InvalidFixed, kit_refF ic_InvalidClaim tC_InvalidClaim su_InvalidClaim_InvalidClaim su_InvalidFixed_InvalidClaim⟩, ⟨⟨PySem.W.mg_of X G g_InvalidSkills, xc_InvalidSkills, kit_refF ic_InvalidClaim tC_InvalidClaim su_InvalidClaim_InvalidClaim su_InvalidSkills_InvalidClaim⟩, ⟨⟨PySem.W.mg_of X G g_InvalidPosts, xc_InvalidPosts, kit_refF ic_InvalidClaim tC_InvalidClaim su_InvalidClaim_InvalidClaim su_InvalidPosts_InvalidClaim⟩, ⟨⟨PySem.W.mg_of X G g_InvalidJobs, xc_InvalidJobs, kit_refF ic_InvalidClaim tC_InvalidClaim su_InvalidClaim_InvalidClaim su_InvalidJobs_InvalidClaim⟩, ⟨⟨PySem.W.mg_of X G g_InvalidPart, xc_InvalidPart, kit_refF ic_InvalidClaim tC_InvalidClaim su_InvalidClaim_InvalidClaim su_InvalidPart_InvalidClaim⟩, ⟨⟨PySem.W.mg_of X G g_InvalidQuestion, xc_InvalidQuestion, kit_refF ic_InvalidClaim tC_InvalidClaim su_InvalidClaim_InvalidClaim su_InvalidQuestion_InvalidClaim⟩, ⟨⟨PySem.W.mg_of X G g_InvalidClaim, xc_InvalidClaim, kit_refF ic_InvalidClaim tC_InvalidClaim su_InvalidClaim_InvalidClaim su_InvalidClaim_InvalidClaim⟩, ⟨⟨PySem.W.mg_of X G g_TooLarge, xc_TooLarge, kit_refF ic_InvalidClaim tC_InvalidClaim su_InvalidClaim_InvalidClaim su_TooLarge_InvalidClaim⟩, ⟨⟨PySem.W.mg_of X G g_Undefined, xc_Undefined, kit_refF ic_InvalidClaim tC_InvalidClaim su_InvalidClaim_InvalidClaim su_Undefined_InvalidClaim⟩, ⟨⟨PySem.W.mg_of X G g_NothingToUndo, xc_NothingToUndo, kit_refF ic_InvalidClaim tC_InvalidClaim su_InvalidClaim_InvalidClaim su_NothingToUndo_InvalidClaim⟩, trivial⟩⟩⟩⟩⟩⟩⟩⟩⟩⟩⟩⟩⟩⟩⟩⟩⟩⟩⟩ (by decide +kernel)
    is_TooLarge := tab_of (as := [a_InvalidNumber, a_InvalidTable, a_InvalidRow, a_InvalidRules, a_InvalidMachines, a_InvalidWants, a_InvalidRota, a_InvalidDislikes, a_InvalidLoads, a_InvalidFixed, a_InvalidSkills, a_InvalidPosts, a_InvalidJobs, a_InvalidPart, a_InvalidQuestion, a_InvalidClaim, a_TooLarge, a_Undefined, a_NothingToUndo]) (bs := [false, false, false, false, false, false, false, false, false, false, false, false, false, false, false, false, true, false, false]) ⟨⟨PySem.W.mg_of X G g_InvalidNumber, xc_InvalidNumber, kit_refF ic_TooLarge tC_TooLarge su_TooLarge_TooLarge su_InvalidNumber_TooLarge⟩, ⟨⟨PySem.W.mg_of X G g_InvalidTable, xc_InvalidTable, kit_refF ic_TooLarge tC_TooLarge su_TooLarge_TooLarge su_InvalidTable_TooLarge⟩, ⟨⟨PySem.W.mg_of X G g_InvalidRow, xc_InvalidRow, kit_refF ic_TooLarge tC_TooLarge su_TooLarge_TooLarge su_InvalidRow_TooLarge⟩, ⟨⟨PySem.W.mg_of X G g_InvalidRules, xc_InvalidRules, kit_refF ic_TooLarge tC_TooLarge su_TooLarge_TooLarge su_InvalidRules_TooLarge⟩, ⟨⟨PySem.W.mg_of X G g_InvalidMachines, xc_InvalidMachines, kit_refF ic_TooLarge tC_TooLarge su_TooLarge_TooLarge su_InvalidMachines_TooLarge⟩, ⟨⟨PySem.W.mg_of X G g_InvalidWants, xc_InvalidWants, kit_refF ic_TooLarge tC_TooLarge su_TooLarge_TooLarge su_InvalidWants_TooLarge⟩, ⟨⟨PySem.W.mg_of X G g_InvalidRota, xc_InvalidRota, kit_refF ic_TooLarge tC_TooLarge su_TooLarge_TooLarge su_InvalidRota_TooLarge⟩, ⟨⟨PySem.W.mg_of X G g_InvalidDislikes, xc_InvalidDislikes, kit_refF ic_TooLarge tC_TooLarge su_TooLarge_TooLarge su_InvalidDislikes_TooLarge⟩, ⟨⟨PySem.W.mg_of X G g_InvalidLoads, xc_InvalidLoads, kit_refF ic_TooLarge tC_TooLarge su_TooLarge_TooLarge su_InvalidLoads_TooLarge⟩, ⟨⟨PySem.W.mg_of X G g_InvalidFixed, xc_InvalidFixed, kit_refF ic_TooLarge tC_TooLarge su_TooLarge_TooLarge su_InvalidFixed_TooLarge⟩, ⟨⟨PySem.W.mg_of X G g_InvalidSkills, xc_InvalidSkills, kit_refF ic_TooLarge tC_TooLarge su_TooLarge_TooLarge su_InvalidSkills_TooLarge⟩, ⟨⟨PySem.W.mg_of X G g_InvalidPosts, xc_InvalidPosts, kit_refF ic_TooLarge tC_TooLarge su_TooLarge_TooLarge su_InvalidPosts_TooLarge⟩, ⟨⟨PySem.W.mg_of X G g_InvalidJobs, xc_InvalidJobs, kit_refF ic_TooLarge tC_TooLarge su_TooLarge_TooLarge su_InvalidJobs_TooLarge⟩, ⟨⟨PySem.W.mg_of X G g_InvalidPart, xc_InvalidPart, kit_refF ic_TooLarge tC_TooLarge su_TooLarge_TooLarge su_InvalidPart_TooLarge⟩, ⟨⟨PySem.W.mg_of X G g_InvalidQuestion, xc_InvalidQuestion, kit_refF ic_TooLarge tC_TooLarge su_TooLarge_TooLarge su_InvalidQuestion_TooLarge⟩, ⟨⟨PySem.W.mg_of X G g_InvalidClaim, xc_InvalidClaim, kit_refF ic_TooLarge tC_TooLarge su_TooLarge_TooLarge su_InvalidClaim_TooLarge⟩, ⟨⟨PySem.W.mg_of X G g_TooLarge, xc_TooLarge, kit_refF ic_TooLarge tC_TooLarge su_TooLarge_TooLarge su_TooLarge_TooLarge⟩, ⟨⟨PySem.W.mg_of X G g_Undefined, xc_Undefined, kit_refF ic_TooLarge tC_TooLarge su_TooLarge_TooLarge su_Undefined_TooLarge⟩, ⟨⟨PySem.W.mg_of X G g_NothingToUndo, xc_NothingToUndo, kit_refF ic_TooLarge tC_TooLarge su_TooLarge_TooLarge su_NothingToUndo_TooLarge⟩, trivial⟩⟩⟩⟩⟩⟩⟩⟩⟩⟩⟩⟩⟩⟩⟩⟩⟩⟩⟩ (by decide +kernel)
    is_Undefined := tab_of (as := [a_InvalidNumber, a_InvalidTable, a_InvalidRow, a_InvalidRules, a_InvalidMachines, a_InvalidWants, a_InvalidRota, a_InvalidDislikes, a_InvalidLoads, a_InvalidFixed, a_InvalidSkills, a_InvalidPosts, a_InvalidJobs, a_InvalidPart, a_InvalidQuestion, a_InvalidClaim, a_TooLarge, a_Undefined, a_NothingToUndo]) (bs := [false, false, false, false, false, false, false, false, false, false, false, false, false, false, false, false, false, true, false]) ⟨⟨PySem.W.mg_of X G g_InvalidNumber, xc_InvalidNumber, kit_refF ic_Undefined tC_Undefined su_Undefined_Undefined su_InvalidNumber_Undefined⟩, ⟨⟨PySem.W.mg_of X G g_InvalidTable, xc_InvalidTable, kit_refF ic_Undefined tC_Undefined su_Undefined_Undefined su_InvalidTable_Undefined⟩, ⟨⟨PySem.W.mg_of X G g_InvalidRow, xc_InvalidRow, kit_refF ic_Undefined tC_Undefined su_Undefined_Undefined su_InvalidRow_Undefined⟩, ⟨⟨PySem.W.mg_of X G g_InvalidRules, xc_InvalidRules, kit_refF ic_Undefined tC_Undefined su_Undefined_Undefined su_InvalidRules_Undefined⟩, ⟨⟨PySem.W.mg_of X G g_InvalidMachines, xc_InvalidMachines, kit_refF ic_Undefined tC_Undefined su_Undefined_Undefined su_InvalidMachines_Undefined⟩, ⟨⟨PySem.W.mg_of X G g_InvalidWants, xc_InvalidWants, kit_refF ic_Undefined tC_Undefined su_Undefined_Undefined su_InvalidWants_Undefined⟩, ⟨⟨PySem.W.mg_of X G g_InvalidRota, xc_InvalidRota, kit_refF ic_Undefined tC_Undefined su_Undefined_Undefined su_InvalidRota_Undefined⟩, ⟨⟨PySem.W.mg_of X G g_InvalidDislikes, xc_InvalidDislikes, kit_refF ic_Undefined tC_Undefined su_Undefined_Undefined su_InvalidDislikes_Undefined⟩, ⟨⟨PySem.W.mg_of X G g_InvalidLoads, xc_InvalidLoads, kit_refF ic_Undefined tC_Undefined su_Undefined_Undefined su_InvalidLoads_Undefined⟩, ⟨⟨PySem.W.mg_of X G g_InvalidFixed, xc_InvalidFixed, kit_refF ic_Undefined tC_Undefined su_Undefined_Undefined su_InvalidFixed_Undefined⟩, ⟨⟨PySem.W.mg_of X G g_InvalidSkills, xc_InvalidSkills, kit_refF ic_Undefined tC_Undefined su_Undefined_Undefined su_InvalidSkills_Undefined⟩, ⟨⟨PySem.W.mg_of X G g_InvalidPosts, xc_InvalidPosts, kit_refF ic_Undefined tC_Undefined su_Undefined_Undefined su_InvalidPosts_Undefined⟩, ⟨⟨PySem.W.mg_of X G g_InvalidJobs, xc_InvalidJobs, kit_refF ic_Undefined tC_Undefined su_Undefined_Undefined su_InvalidJobs_Undefined⟩, ⟨⟨PySem.W.mg_of X G g_InvalidPart, xc_InvalidPart, kit_refF ic_Undefined tC_Undefined su_Undefined_Undefined su_InvalidPart_Undefined⟩, ⟨⟨PySem.W.mg_of X G g_InvalidQuestion, xc_InvalidQuestion, kit_refF ic_Undefined tC_Undefined su_Undefined_Undefined su_InvalidQuestion_Undefined⟩, ⟨⟨PySem.W.mg_of X G g_InvalidClaim, xc_InvalidClaim, kit_refF ic_Undefined tC_Undefined su_Undefined_Undefined su_InvalidClaim_Undefined⟩, ⟨⟨PySem.W.mg_of X G g_TooLarge, xc_TooLarge, kit_refF ic_Undefined tC_Undefined su_Undefined_Undefined su_TooLarge_Undefined⟩, ⟨⟨PySem.W.mg_of X G g_Undefined, xc_Undefined, kit_refF ic_Undefined tC_Undefined su_Undefined_Undefined su_Undefined_Undefined⟩, ⟨⟨PySem.W.mg_of X G g_NothingToUndo, xc_NothingToUndo, kit_refF ic_Undefined tC_Undefined su_Undefined_Undefined su_NothingToUndo_Undefined⟩, trivial⟩⟩⟩⟩⟩⟩⟩⟩⟩⟩⟩⟩⟩⟩⟩⟩⟩⟩⟩ (by decide +kernel)
    is_NothingToUndo := tab_of (as := [a_InvalidNumber, a_InvalidTable, a_InvalidRow, a_InvalidRules, a_InvalidMachines, a_InvalidWants, a_InvalidRota, a_InvalidDislikes, a_InvalidLoads, a_InvalidFixed, a_InvalidSkills, a_InvalidPosts, a_InvalidJobs, a_InvalidPart, a_InvalidQuestion, a_InvalidClaim, a_TooLarge, a_Undefined, a_NothingToUndo]) (bs := [false, false, false, false, false, false, false, false, false, false, false, false, false, false, false, false, false, false, true]) ⟨⟨PySem.W.mg_of X G g_InvalidNumber, xc_InvalidNumber, kit_refF ic_NothingToUndo tC_NothingToUndo su_NothingToUndo_NothingToUndo su_InvalidNumber_NothingToUndo⟩, ⟨⟨PySem.W.mg_of X G g_InvalidTable, xc_InvalidTable, kit_refF ic_NothingToUndo tC_NothingToUndo su_NothingToUndo_NothingToUndo su_InvalidTable_NothingToUndo⟩, ⟨⟨PySem.W.mg_of X G g_InvalidRow, xc_InvalidRow, kit_refF ic_NothingToUndo tC_NothingToUndo su_NothingToUndo_NothingToUndo su_InvalidRow_NothingToUndo⟩, ⟨⟨PySem.W.mg_of X G g_InvalidRules, xc_InvalidRules, kit_refF ic_NothingToUndo tC_NothingToUndo su_NothingToUndo_NothingToUndo su_InvalidRules_NothingToUndo⟩, ⟨⟨PySem.W.mg_of X G g_InvalidMachines, xc_InvalidMachines, kit_refF ic_NothingToUndo tC_NothingToUndo su_NothingToUndo_NothingToUndo su_InvalidMachines_NothingToUndo⟩, ⟨⟨PySem.W.mg_of X G g_InvalidWants, xc_InvalidWants, kit_refF ic_NothingToUndo tC_NothingToUndo su_NothingToUndo_NothingToUndo su_InvalidWants_NothingToUndo⟩, ⟨⟨PySem.W.mg_of X G g_InvalidRota, xc_InvalidRota, kit_refF ic_NothingToUndo tC_NothingToUndo su_NothingToUndo_NothingToUndo su_InvalidRota_NothingToUndo⟩, ⟨⟨PySem.W.mg_of X G g_InvalidDislikes, xc_InvalidDislikes, kit_refF ic_NothingToUndo tC_NothingToUndo su_NothingToUndo_NothingToUndo su_InvalidDislikes_NothingToUndo⟩, ⟨⟨PySem.W.mg_of X G g_InvalidLoads, xc_InvalidLoads, kit_refF ic_NothingToUndo tC_NothingToUndo su_NothingToUndo_NothingToUndo su_InvalidLoads_NothingToUndo⟩, ⟨⟨PySem.W.mg_of X G g_InvalidFixed, xc_InvalidFixed, kit_refF ic_NothingToUndo tC_NothingToUndo su_NothingToUndo_NothingToUndo su_InvalidFixed_NothingToUndo⟩, ⟨⟨PySem.W.mg_of X G g_InvalidSkills, xc_InvalidSkills, kit_refF ic_NothingToUndo tC_NothingToUndo su_NothingToUndo_NothingToUndo su_InvalidSkills_NothingToUndo⟩, ⟨⟨PySem.W.mg_of X G g_InvalidPosts, xc_InvalidPosts, kit_refF ic_NothingToUndo tC_NothingToUndo su_NothingToUndo_NothingToUndo su_InvalidPosts_NothingToUndo⟩, ⟨⟨PySem.W.mg_of X G g_InvalidJobs, xc_InvalidJobs, kit_refF ic_NothingToUndo tC_NothingToUndo su_NothingToUndo_NothingToUndo su_InvalidJobs_NothingToUndo⟩, ⟨⟨PySem.W.mg_of X G g_InvalidPart, xc_InvalidPart, kit_refF ic_NothingToUndo tC_NothingToUndo su_NothingToUndo_NothingToUndo su_InvalidPart_NothingToUndo⟩, ⟨⟨PySem.W.mg_of X G g_InvalidQuestion, xc_InvalidQuestion, kit_refF ic_NothingToUndo tC_NothingToUndo su_NothingToUndo_NothingToUndo su_InvalidQuestion_NothingToUndo⟩, ⟨⟨PySem.W.mg_of X G g_InvalidClaim, xc_InvalidClaim, kit_refF ic_NothingToUndo tC_NothingToUndo su_NothingToUndo_NothingToUndo su_InvalidClaim_NothingToUndo⟩, ⟨⟨PySem.W.mg_of X G g_TooLarge, xc_TooLarge, kit_refF ic_NothingToUndo tC_NothingToUndo su_NothingToUndo_NothingToUndo su_TooLarge_NothingToUndo⟩, ⟨⟨PySem.W.mg_of X G g_Undefined, xc_Undefined, kit_refF ic_NothingToUndo tC_NothingToUndo su_NothingToUndo_NothingToUndo su_Undefined_NothingToUndo⟩, ⟨⟨PySem.W.mg_of X G g_NothingToUndo, xc_NothingToUndo, kit_refF ic_NothingToUndo tC_NothingToUndo su_NothingToUndo_NothingToUndo su_NothingToUndo_NothingToUndo⟩, trivial⟩⟩⟩⟩⟩⟩⟩⟩⟩⟩⟩⟩⟩⟩⟩⟩⟩⟩⟩ (by decide +kernel)
    is_DutyError := tab_of (as := [a_InvalidNumber, a_InvalidTable, a_InvalidRow, a_InvalidRules, a_InvalidMachines, a_InvalidWants, a_InvalidRota, a_InvalidDislikes, a_InvalidLoads, a_InvalidFixed, a_InvalidSkills, a_InvalidPosts, a_InvalidJobs, a_InvalidPart, a_InvalidQuestion, a_InvalidClaim, a_TooLarge, a_Undefined, a_NothingToUndo]) (bs := [true, true, true, true, true, true, true, true, true, true, true, true, true, true, true, true, true, true, true]) ⟨⟨PySem.W.mg_of X G g_InvalidNumber, xc_InvalidNumber, kit_refF ic_DutyError tC_DutyError su_DutyError_DutyError su_InvalidNumber_DutyError⟩, ⟨⟨PySem.W.mg_of X G g_InvalidTable, xc_InvalidTable, kit_refF ic_DutyError tC_DutyError su_DutyError_DutyError su_InvalidTable_DutyError⟩, ⟨⟨PySem.W.mg_of X G g_InvalidRow, xc_InvalidRow, kit_refF ic_DutyError tC_DutyError su_DutyError_DutyError su_InvalidRow_DutyError⟩, ⟨⟨PySem.W.mg_of X G g_InvalidRules, xc_InvalidRules, kit_refF ic_DutyError tC_DutyError su_DutyError_DutyError su_InvalidRules_DutyError⟩, ⟨⟨PySem.W.mg_of X G g_InvalidMachines, xc_InvalidMachines, kit_refF ic_DutyError tC_DutyError su_DutyError_DutyError su_InvalidMachines_DutyError⟩, ⟨⟨PySem.W.mg_of X G g_InvalidWants, xc_InvalidWants, kit_refF ic_DutyError tC_DutyError su_DutyError_DutyError su_InvalidWants_DutyError⟩, ⟨⟨PySem.W.mg_of X G g_InvalidRota, xc_InvalidRota, kit_refF ic_DutyError tC_DutyError su_DutyError_DutyError su_InvalidRota_DutyError⟩, ⟨⟨PySem.W.mg_of X G g_InvalidDislikes, xc_InvalidDislikes, kit_refF ic_DutyError tC_DutyError su_DutyError_DutyError su_InvalidDislikes_DutyError⟩, ⟨⟨PySem.W.mg_of X G g_InvalidLoads, xc_InvalidLoads, kit_refF ic_DutyError tC_DutyError su_DutyError_DutyError su_InvalidLoads_DutyError⟩, ⟨⟨PySem.W.mg_of X G g_InvalidFixed, xc_InvalidFixed, kit_refF ic_DutyError tC_DutyError su_DutyError_DutyError su_InvalidFixed_DutyError⟩, ⟨⟨PySem.W.mg_of X G g_InvalidSkills, xc_InvalidSkills, kit_refF ic_DutyError tC_DutyError su_DutyError_DutyError su_InvalidSkills_DutyError⟩, ⟨⟨PySem.W.mg_of X G g_InvalidPosts, xc_InvalidPosts, kit_refF ic_DutyError tC_DutyError su_DutyError_DutyError su_InvalidPosts_DutyError⟩, ⟨⟨PySem.W.mg_of X G g_InvalidJobs, xc_InvalidJobs, kit_refF ic_DutyError tC_DutyError su_DutyError_DutyError su_InvalidJobs_DutyError⟩, ⟨⟨PySem.W.mg_of X G g_InvalidPart, xc_InvalidPart, kit_refF ic_DutyError tC_DutyError su_DutyError_DutyError su_InvalidPart_DutyError⟩, ⟨⟨PySem.W.mg_of X G g_InvalidQuestion, xc_InvalidQuestion, kit_refF ic_DutyError tC_DutyError su_DutyError_DutyError su_InvalidQuestion_DutyError⟩, ⟨⟨PySem.W.mg_of X G g_InvalidClaim, xc_InvalidClaim, kit_refF ic_DutyError tC_DutyError su_DutyError_DutyError su_InvalidClaim_DutyError⟩, ⟨⟨PySem.W.mg_of X G g_TooLarge, xc_TooLarge, kit_refF ic_DutyError tC_DutyError su_DutyError_DutyError su_TooLarge_DutyError⟩, ⟨⟨PySem.W.mg_of X G g_Undefined, xc_Undefined, kit_refF ic_DutyError tC_DutyError su_DutyError_DutyError su_Undefined_DutyError⟩, ⟨⟨PySem.W.mg_of X G g_NothingToUndo, xc_NothingToUndo, kit_refF ic_DutyError tC_DutyError su_DutyError_DutyError su_NothingToUndo_DutyError⟩, trivial⟩⟩⟩⟩⟩⟩⟩⟩⟩⟩⟩⟩⟩⟩⟩⟩⟩⟩⟩ (by decide +kernel)
    is_ValueError := tab_of (as := [a_InvalidNumber, a_InvalidTable, a_InvalidRow, a_InvalidRules, a_InvalidMachines, a_InvalidWants, a_InvalidRota, a_InvalidDislikes, a_InvalidLoads, a_InvalidFixed, a_InvalidSkills, a_InvalidPosts, a_InvalidJobs, a_InvalidPart, a_InvalidQuestion, a_InvalidClaim, a_TooLarge, a_Undefined, a_NothingToUndo]) (bs := [true, true, true, true, true, true, true, true, true, true, true, true, true, true, true, true, true, true, true]) ⟨⟨PySem.W.mg_of X G g_InvalidNumber, xc_InvalidNumber, kit_no (by decide +kernel) sv_InvalidNumber⟩, ⟨⟨PySem.W.mg_of X G g_InvalidTable, xc_InvalidTable, kit_no (by decide +kernel) sv_InvalidTable⟩, ⟨⟨PySem.W.mg_of X G g_InvalidRow, xc_InvalidRow, kit_no (by decide +kernel) sv_InvalidRow⟩, ⟨⟨PySem.W.mg_of X G g_InvalidRules, xc_InvalidRules, kit_no (by decide +kernel) sv_InvalidRules⟩, ⟨⟨PySem.W.mg_of X G g_InvalidMachines, xc_InvalidMachines, kit_no (by decide +kernel) sv_InvalidMachines⟩, ⟨⟨PySem.W.mg_of X G g_InvalidWants, xc_InvalidWants, kit_no (by decide +kernel) sv_InvalidWants⟩, ⟨⟨PySem.W.mg_of X G g_InvalidRota, xc_InvalidRota, kit_no (by decide +kernel) sv_InvalidRota⟩, ⟨⟨PySem.W.mg_of X G g_InvalidDislikes, xc_InvalidDislikes, kit_no (by decide +kernel) sv_InvalidDislikes⟩, ⟨⟨PySem.W.mg_of X G g_InvalidLoads, xc_InvalidLoads, kit_no (by decide +kernel) sv_InvalidLoads⟩, ⟨⟨PySem.W.mg_of X G g_InvalidFixed, xc_InvalidFixed, kit_no (by decide +kernel) sv_InvalidFixed⟩, ⟨⟨PySem.W.mg_of X G g_InvalidSkills, xc_InvalidSkills, kit_no (by decide +kernel) sv_InvalidSkills⟩, ⟨⟨PySem.W.mg_of X G g_InvalidPosts, xc_InvalidPosts, kit_no (by decide +kernel) sv_InvalidPosts⟩, ⟨⟨PySem.W.mg_of X G g_InvalidJobs, xc_InvalidJobs, kit_no (by decide +kernel) sv_InvalidJobs⟩, ⟨⟨PySem.W.mg_of X G g_InvalidPart, xc_InvalidPart, kit_no (by decide +kernel) sv_InvalidPart⟩, ⟨⟨PySem.W.mg_of X G g_InvalidQuestion, xc_InvalidQuestion, kit_no (by decide +kernel) sv_InvalidQuestion⟩, ⟨⟨PySem.W.mg_of X G g_InvalidClaim, xc_InvalidClaim, kit_no (by decide +kernel) sv_InvalidClaim⟩, ⟨⟨PySem.W.mg_of X G g_TooLarge, xc_TooLarge, kit_no (by decide +kernel) sv_TooLarge⟩, ⟨⟨PySem.W.mg_of X G g_Undefined, xc_Undefined, kit_no (by decide +kernel) sv_Undefined⟩, ⟨⟨PySem.W.mg_of X G g_NothingToUndo, xc_NothingToUndo, kit_no (by decide +kernel) sv_NothingToUndo⟩, trivial⟩⟩⟩⟩⟩⟩⟩⟩⟩⟩⟩⟩⟩⟩⟩⟩⟩⟩⟩ (by decide +kernel) }
  exact ⟨PySem.W.fnOf "law" "law" (defArgs s_law) (defBody s_law) (defScope s_law) .none kV_law dc_law pm_law an_law cd_law ct_law, fun s u => .of_eq rfl, fun base _ _ => ok_law T⟩
end K01
open PySem PySem.W PyProof.Rows in
set_option maxRecDepth 100000 in
set_option maxHeartbeats 0 in
theorem PySem.Challenge.cw_dutyweeks_k01_errors_holds : PySem.Challenge.rw_dutyweeks_k01_errors.Holds := by
  w_on; o_law; k_head; (case hw => w_witness2)
  k_fill
  refine K01.walk (l := PySem.Challenge.rw_dutyweeks_k01_errors) rfl rfl (fun w h Y => PySem.W.kIn_of Y) ?F
  case F =>
    intro w mg fa h KX G hmg
    refine' K01.all_mk KX G hmg ?a_law_box_g ?l_law_box ?c_law_box ?k_law_box ?a_law_take_g ?l_law_take ?c_law_take ?k_law_take ?a_law_pick_g ?l_law_pick ?c_law_pick ?k_law_pick ?a_law_ones_g ?l_law_ones ?c_law_ones ?k_law_ones ?a_law_kinds_g ?l_law_kinds ?c_law_kinds ?k_law_kinds ?a_law_g ?l_law ?c_law ?k_law ?g_InvalidNumber ?xL_InvalidNumber ?ve_InvalidNumber ?sa_InvalidNumber ?ga_InvalidNumber ?gg_InvalidNumber ?no_InvalidNumber ?in_InvalidNumber ?ti_InvalidNumber ?l_InvalidNumber_init ?c_InvalidNumber_init ?k_InvalidNumber_init ?kC_InvalidNumber ?eC_InvalidNumber ?tC_InvalidNumber ?hC_InvalidNumber ?g_InvalidTable ?xL_InvalidTable ?ve_InvalidTable ?sa_InvalidTable ?ga_InvalidTable ?gg_InvalidTable ?no_InvalidTable ?in_InvalidTable ?ti_InvalidTable ?l_InvalidTable_init ?c_InvalidTable_init ?k_InvalidTable_init ?kC_InvalidTable ?eC_InvalidTable ?tC_InvalidTable ?hC_InvalidTable ?g_InvalidRow ?xL_InvalidRow ?ve_InvalidRow ?sa_InvalidRow ?ga_InvalidRow ?gg_InvalidRow ?no_InvalidRow ?in_InvalidRow ?ti_InvalidRow ?l_InvalidRow_init ?c_InvalidRow_init ?k_InvalidRow_init ?kC_InvalidRow ?eC_InvalidRow ?tC_InvalidRow ?hC_InvalidRow ?g_InvalidRules ?xL_InvalidRules ?ve_InvalidRules ?sa_InvalidRules ?ga_InvalidRules ?gg_InvalidRules ?no_InvalidRules ?in_InvalidRules ?ti_InvalidRules ?l_InvalidRules_init ?c_InvalidRules_init ?k_InvalidRules_init ?kC_InvalidRules ?eC_InvalidRules ?tC_InvalidRules ?hC_InvalidRules ?g_InvalidMachines ?xL_InvalidMachines ?ve_InvalidMachines ?sa_InvalidMachines ?ga_InvalidMachines ?gg_InvalidMachines ?no_InvalidMachines ?in_InvalidMachines ?ti_InvalidMachines ?l_InvalidMachines_init ?c_InvalidMachines_init ?k_InvalidMachines_init ?kC_InvalidMachines ?eC_InvalidMachines ?tC_InvalidMachines ?hC_InvalidMachines ?g_InvalidWants ?xL_InvalidWants ?ve_InvalidWants ?sa_InvalidWants ?ga_InvalidWants ?gg_InvalidWants ?no_InvalidWants ?in_InvalidWants ?ti_InvalidWants ?l_InvalidWants_init ?c_InvalidWants_init ?k_InvalidWants_init ?kC_InvalidWants ?eC_InvalidWants ?tC_InvalidWants ?hC_InvalidWants ?g_InvalidRota ?xL_InvalidRota ?ve_InvalidRota ?sa_InvalidRota ?ga_InvalidRota ?gg_InvalidRota ?no_InvalidRota ?in_InvalidRota ?ti_InvalidRota ?l_InvalidRota_init ?c_InvalidRota_init ?k_InvalidRota_init ?kC_InvalidRota ?eC_InvalidRota ?tC_InvalidRota ?hC_InvalidRota ?g_InvalidDislikes ?xL_InvalidDislikes ?ve_InvalidDislikes ?sa_InvalidDislikes ?ga_InvalidDislikes ?gg_InvalidDislikes ?no_InvalidDislikes ?in_InvalidDislikes ?ti_InvalidDislikes ?l_InvalidDislikes_init ?c_InvalidDislikes_init ?k_InvalidDislikes_init ?kC_InvalidDislikes ?eC_InvalidDislikes ?tC_InvalidDislikes ?hC_InvalidDislikes ?g_InvalidLoads ?xL_InvalidLoads ?ve_InvalidLoads ?sa_InvalidLoads ?ga_InvalidLoads ?gg_InvalidLoads ?no_InvalidLoads ?in_InvalidLoads ?ti_InvalidLoads ?l_InvalidLoads_init ?c_InvalidLoads_init ?k_InvalidLoads_init ?kC_InvalidLoads ?eC_InvalidLoads ?tC_InvalidLoads ?hC_InvalidLoads ?g_InvalidFixed ?xL_InvalidFixed ?ve_InvalidFixed ?sa_InvalidFixed ?ga_InvalidFixed ?gg_InvalidFixed ?no_InvalidFixed ?in_InvalidFixed ?ti_InvalidFixed ?l_InvalidFixed_init ?c_InvalidFixed_init ?k_InvalidFixed_init ?kC_InvalidFixed ?eC_InvalidFixed ?tC_InvalidFixed ?hC_InvalidFixed ?g_InvalidSkills ?xL_InvalidSkills ?ve_InvalidSkills ?sa_InvalidSkills ?ga_InvalidSkills ?gg_InvalidSkills ?no_InvalidSkills ?in_InvalidSkills ?ti_InvalidSkills ?l_InvalidSkills_init ?c_InvalidSkills_init ?k_InvalidSkills_init ?kC_InvalidSkills ?eC_InvalidSkills ?tC_InvalidSkills ?hC_InvalidSkills ?g_InvalidPosts ?xL_InvalidPosts ?ve_InvalidPosts ?sa_InvalidPosts ?ga_InvalidPosts ?gg_InvalidPosts ?no_InvalidPosts ?in_InvalidPosts ?ti_InvalidPosts ?l_InvalidPosts_init ?c_InvalidPosts_init ?k_InvalidPosts_init ?kC_InvalidPosts ?eC_InvalidPosts ?tC_InvalidPosts ?hC_InvalidPosts ?g_InvalidJobs ?xL_InvalidJobs ?ve_InvalidJobs ?sa_InvalidJobs ?ga_InvalidJobs ?gg_InvalidJobs ?no_InvalidJobs ?in_InvalidJobs ?ti_InvalidJobs ?l_InvalidJobs_init ?c_InvalidJobs_init ?k_InvalidJobs_init ?kC_InvalidJobs ?eC_InvalidJobs ?tC_InvalidJobs ?hC_InvalidJobs ?g_InvalidPart ?xL_InvalidPart ?ve_InvalidPart ?sa_InvalidPart ?ga_InvalidPart ?gg_InvalidPart ?no_InvalidPart ?in_InvalidPart ?ti_InvalidPart ?l_InvalidPart_init ?c_InvalidPart_init ?k_InvalidPart_init ?kC_InvalidPart ?eC_InvalidPart ?tC_InvalidPart ?hC_InvalidPart ?g_InvalidQuestion ?xL_InvalidQuestion ?ve_InvalidQuestion ?sa_InvalidQuestion ?ga_InvalidQuestion ?gg_InvalidQuestion ?no_InvalidQuestion ?in_InvalidQuestion ?ti_InvalidQuestion ?l_InvalidQuestion_init ?c_InvalidQuestion_init ?k_InvalidQuestion_init ?kC_InvalidQuestion ?eC_InvalidQuestion ?tC_InvalidQuestion ?hC_InvalidQuestion ?g_InvalidClaim ?xL_InvalidClaim ?ve_InvalidClaim ?sa_InvalidClaim ?ga_InvalidClaim ?gg_InvalidClaim ?no_InvalidClaim ?in_InvalidClaim ?ti_InvalidClaim ?l_InvalidClaim_init ?c_InvalidClaim_init ?k_InvalidClaim_init ?kC_InvalidClaim ?eC_InvalidClaim ?tC_InvalidClaim ?hC_InvalidClaim ?g_TooLarge ?xL_TooLarge ?ve_TooLarge ?sa_TooLarge ?ga_TooLarge ?gg_TooLarge ?no_TooLarge ?in_TooLarge ?ti_TooLarge ?l_TooLarge_init ?c_TooLarge_init ?k_TooLarge_init ?kC_TooLarge ?eC_TooLarge ?tC_TooLarge ?hC_TooLarge ?g_Undefined ?xL_Undefined ?ve_Undefined ?sa_Undefined ?ga_Undefined ?gg_Undefined ?no_Undefined ?in_Undefined ?ti_Undefined ?l_Undefined_init ?c_Undefined_init ?k_Undefined_init ?kC_Undefined ?eC_Undefined ?tC_Undefined ?hC_Undefined ?g_NothingToUndo ?xL_NothingToUndo ?ve_NothingToUndo ?sa_NothingToUndo ?ga_NothingToUndo ?gg_NothingToUndo ?no_NothingToUndo ?in_NothingToUndo ?ti_NothingToUndo ?l_NothingToUndo_init ?c_NothingToUndo_init ?k_NothingToUndo_init ?kC_NothingToUndo ?eC_NothingToUndo ?tC_NothingToUndo ?hC_NothingToUndo ?n_ValueError_g ?n_abs_g ?n_int_g ?n_isinstance_g ?n_len_g ?n_range_g ?n_str_g ?g_DutyError ?hn_xx ?ht_xx ?ha_InvalidNumber ?hm_InvalidNumber ?sv_InvalidNumber ?ha_InvalidTable ?hm_InvalidTable ?sv_InvalidTable ?ha_InvalidRow ?hm_InvalidRow ?sv_InvalidRow ?ha_InvalidRules ?hm_InvalidRules ?sv_InvalidRules ?ha_InvalidMachines ?hm_InvalidMachines ?sv_InvalidMachines ?ha_InvalidWants ?hm_InvalidWants ?sv_InvalidWants ?ha_InvalidRota ?hm_InvalidRota ?sv_InvalidRota ?ha_InvalidDislikes ?hm_InvalidDislikes ?sv_InvalidDislikes ?ha_InvalidLoads ?hm_InvalidLoads ?sv_InvalidLoads ?ha_InvalidFixed ?hm_InvalidFixed ?sv_InvalidFixed ?ha_InvalidSkills ?hm_InvalidSkills ?sv_InvalidSkills ?ha_InvalidPosts ?hm_InvalidPosts ?sv_InvalidPosts ?ha_InvalidJobs ?hm_InvalidJobs ?sv_InvalidJobs ?ha_InvalidPart ?hm_InvalidPart ?sv_InvalidPart ?ha_InvalidQuestion ?hm_InvalidQuestion ?sv_InvalidQuestion ?ha_InvalidClaim ?hm_InvalidClaim ?sv_InvalidClaim ?ha_TooLarge ?hm_TooLarge ?sv_TooLarge ?ha_Undefined ?hm_Undefined ?sv_Undefined ?ha_NothingToUndo ?hm_NothingToUndo ?sv_NothingToUndo ?ic_InvalidNumber ?su_InvalidNumber_InvalidNumber ?su_InvalidTable_InvalidNumber ?su_InvalidRow_InvalidNumber ?su_InvalidRules_InvalidNumber ?su_InvalidMachines_InvalidNumber ?su_InvalidWants_InvalidNumber ?su_InvalidRota_InvalidNumber ?su_InvalidDislikes_InvalidNumber ?su_InvalidLoads_InvalidNumber ?su_InvalidFixed_InvalidNumber ?su_InvalidSkills_InvalidNumber ?su_InvalidPosts_InvalidNumber ?su_InvalidJobs_InvalidNumber ?su_InvalidPart_InvalidNumber ?su_InvalidQuestion_InvalidNumber ?su_InvalidClaim_InvalidNumber ?su_TooLarge_InvalidNumber ?su_Undefined_InvalidNumber ?su_NothingToUndo_InvalidNumber ?ic_InvalidTable ?su_InvalidNumber_InvalidTable ?su_InvalidTable_InvalidTable ?su_InvalidRow_InvalidTable ?su_InvalidRules_InvalidTable ?su_InvalidMachines_InvalidTable ?su_InvalidWants_InvalidTable ?su_InvalidRota_InvalidTable ?su_InvalidDislikes_InvalidTable ?su_InvalidLoads_InvalidTable ?su_InvalidFixed_InvalidTable ?su_InvalidSkills_InvalidTable ?su_InvalidPosts_InvalidTable ?su_InvalidJobs_InvalidTable ?su_InvalidPart_InvalidTable ?su_InvalidQuestion_InvalidTable ?su_InvalidClaim_InvalidTable ?su_TooLarge_InvalidTable ?su_Undefined_InvalidTable ?su_NothingToUndo_InvalidTable ?ic_InvalidRow ?su_InvalidNumber_InvalidRow ?su_InvalidTable_InvalidRow ?su_InvalidRow_InvalidRow ?su_InvalidRules_InvalidRow ?su_InvalidMachines_InvalidRow ?su_InvalidWants_InvalidRow ?su_InvalidRota_InvalidRow ?su_InvalidDislikes_InvalidRow ?su_InvalidLoads_InvalidRow ?su_InvalidFixed_InvalidRow ?su_InvalidSkills_InvalidRow ?su_InvalidPosts_InvalidRow ?su_InvalidJobs_InvalidRow ?su_InvalidPart_InvalidRow ?su_InvalidQuestion_InvalidRow ?su_InvalidClaim_InvalidRow ?su_TooLarge_InvalidRow ?su_Undefined_InvalidRow ?su_NothingToUndo_InvalidRow ?ic_InvalidRules ?su_InvalidNumber_InvalidRules ?su_InvalidTable_InvalidRules ?su_InvalidRow_InvalidRules ?su_InvalidRules_InvalidRules ?su_InvalidMachines_InvalidRules ?su_InvalidWants_InvalidRules ?su_InvalidRota_InvalidRules ?su_InvalidDislikes_InvalidRules ?su_InvalidLoads_InvalidRules ?su_InvalidFixed_InvalidRules ?su_InvalidSkills_InvalidRules ?su_InvalidPosts_InvalidRules ?su_InvalidJobs_InvalidRules ?su_InvalidPart_InvalidRules ?su_InvalidQuestion_InvalidRules ?su_InvalidClaim_InvalidRules ?su_TooLarge_InvalidRules ?su_Undefined_InvalidRules ?su_NothingToUndo_InvalidRules ?ic_InvalidMachines ?su_InvalidNumber_InvalidMachines ?su_InvalidTable_InvalidMachines ?su_InvalidRow_InvalidMachines ?su_InvalidRules_InvalidMachines ?su_InvalidMachines_InvalidMachines ?su_InvalidWants_InvalidMachines ?su_InvalidRota_InvalidMachines ?su_InvalidDislikes_InvalidMachines ?su_InvalidLoads_InvalidMachines ?su_InvalidFixed_InvalidMachines ?su_InvalidSkills_InvalidMachines ?su_InvalidPosts_InvalidMachines ?su_InvalidJobs_InvalidMachines ?su_InvalidPart_InvalidMachines ?su_InvalidQuestion_InvalidMachines ?su_InvalidClaim_InvalidMachines ?su_TooLarge_InvalidMachines ?su_Undefined_InvalidMachines ?su_NothingToUndo_InvalidMachines ?ic_InvalidWants ?su_InvalidNumber_InvalidWants ?su_InvalidTable_InvalidWants ?su_InvalidRow_InvalidWants ?su_InvalidRules_InvalidWants ?su_InvalidMachines_InvalidWants ?su_InvalidWants_InvalidWants ?su_InvalidRota_InvalidWants ?su_InvalidDislikes_InvalidWants ?su_InvalidLoads_InvalidWants ?su_InvalidFixed_InvalidWants ?su_InvalidSkills_InvalidWants ?su_InvalidPosts_InvalidWants ?su_InvalidJobs_InvalidWants ?su_InvalidPart_InvalidWants ?su_InvalidQuestion_InvalidWants ?su_InvalidClaim_InvalidWants ?su_TooLarge_InvalidWants ?su_Undefined_InvalidWants ?su_NothingToUndo_InvalidWants ?ic_InvalidRota ?su_InvalidNumber_InvalidRota ?su_InvalidTable_InvalidRota ?su_InvalidRow_InvalidRota ?su_InvalidRules_InvalidRota ?su_InvalidMachines_InvalidRota ?su_InvalidWants_InvalidRota ?su_InvalidRota_InvalidRota ?su_InvalidDislikes_InvalidRota ?su_InvalidLoads_InvalidRota ?su_InvalidFixed_InvalidRota ?su_InvalidSkills_InvalidRota ?su_InvalidPosts_InvalidRota ?su_InvalidJobs_InvalidRota ?su_InvalidPart_InvalidRota ?su_InvalidQuestion_InvalidRota ?su_InvalidClaim_InvalidRota ?su_TooLarge_InvalidRota ?su_Undefined_InvalidRota ?su_NothingToUndo_InvalidRota ?ic_InvalidDislikes ?su_InvalidNumber_InvalidDislikes ?su_InvalidTable_InvalidDislikes ?su_InvalidRow_InvalidDislikes ?su_InvalidRules_InvalidDislikes ?su_InvalidMachines_InvalidDislikes ?su_InvalidWants_InvalidDislikes ?su_InvalidRota_InvalidDislikes ?su_InvalidDislikes_InvalidDislikes ?su_InvalidLoads_InvalidDislikes ?su_InvalidFixed_InvalidDislikes ?su_InvalidSkills_InvalidDislikes ?su_InvalidPosts_InvalidDislikes ?su_InvalidJobs_InvalidDislikes ?su_InvalidPart_InvalidDislikes ?su_InvalidQuestion_InvalidDislikes ?su_InvalidClaim_InvalidDislikes ?su_TooLarge_InvalidDislikes ?su_Undefined_InvalidDislikes ?su_NothingToUndo_InvalidDislikes ?ic_InvalidLoads ?su_InvalidNumber_InvalidLoads ?su_InvalidTable_InvalidLoads ?su_InvalidRow_InvalidLoads ?su_InvalidRules_InvalidLoads ?su_InvalidMachines_InvalidLoads ?su_InvalidWants_InvalidLoads ?su_InvalidRota_InvalidLoads ?su_InvalidDislikes_InvalidLoads ?su_InvalidLoads_InvalidLoads ?su_InvalidFixed_InvalidLoads ?su_InvalidSkills_InvalidLoads ?su_InvalidPosts_InvalidLoads ?su_InvalidJobs_InvalidLoads ?su_InvalidPart_InvalidLoads ?su_InvalidQuestion_InvalidLoads ?su_InvalidClaim_InvalidLoads ?su_TooLarge_InvalidLoads ?su_Undefined_InvalidLoads ?su_NothingToUndo_InvalidLoads ?ic_InvalidFixed ?su_InvalidNumber_InvalidFixed ?su_InvalidTable_InvalidFixed ?su_InvalidRow_InvalidFixed ?su_InvalidRules_InvalidFixed ?su_InvalidMachines_InvalidFixed ?su_InvalidWants_InvalidFixed ?su_InvalidRota_InvalidFixed ?su_InvalidDislikes_InvalidFixed ?su_InvalidLoads_InvalidFixed ?su_InvalidFixed_InvalidFixed ?su_InvalidSkills_InvalidFixed ?su_InvalidPosts_InvalidFixed ?su_InvalidJobs_InvalidFixed ?su_InvalidPart_InvalidFixed ?su_InvalidQuestion_InvalidFixed ?su_InvalidClaim_InvalidFixed ?su_TooLarge_InvalidFixed ?su_Undefined_InvalidFixed ?su_NothingToUndo_InvalidFixed ?ic_InvalidSkills ?su_InvalidNumber_InvalidSkills ?su_InvalidTable_InvalidSkills ?su_InvalidRow_InvalidSkills ?su_InvalidRules_InvalidSkills ?su_InvalidMachines_InvalidSkills ?su_InvalidWants_InvalidSkills ?su_InvalidRota_InvalidSkills ?su_InvalidDislikes_InvalidSkills ?su_InvalidLoads_InvalidSkills ?su_InvalidFixed_InvalidSkills ?su_InvalidSkills_InvalidSkills ?su_InvalidPosts_InvalidSkills ?su_InvalidJobs_InvalidSkills ?su_InvalidPart_InvalidSkills ?su_InvalidQuestion_InvalidSkills ?su_InvalidClaim_InvalidSkills ?su_TooLarge_InvalidSkills ?su_Undefined_InvalidSkills ?su_NothingToUndo_InvalidSkills ?ic_InvalidPosts ?su_InvalidNumber_InvalidPosts ?su_InvalidTable_InvalidPosts ?su_InvalidRow_InvalidPosts ?su_InvalidRules_InvalidPosts ?su_InvalidMachines_InvalidPosts ?su_InvalidWants_InvalidPosts ?su_InvalidRota_InvalidPosts ?su_InvalidDislikes_InvalidPosts ?su_InvalidLoads_InvalidPosts ?su_InvalidFixed_InvalidPosts ?su_InvalidSkills_InvalidPosts ?su_InvalidPosts_InvalidPosts ?su_InvalidJobs_InvalidPosts ?su_InvalidPart_InvalidPosts ?su_InvalidQuestion_InvalidPosts ?su_InvalidClaim_InvalidPosts ?su_TooLarge_InvalidPosts ?su_Undefined_InvalidPosts ?su_NothingToUndo_InvalidPosts ?ic_InvalidJobs ?su_InvalidNumber_InvalidJobs ?su_InvalidTable_InvalidJobs ?su_InvalidRow_InvalidJobs ?su_InvalidRules_InvalidJobs ?su_InvalidMachines_InvalidJobs ?su_InvalidWants_InvalidJobs ?su_InvalidRota_InvalidJobs ?su_InvalidDislikes_InvalidJobs ?su_InvalidLoads_InvalidJobs ?su_InvalidFixed_InvalidJobs ?su_InvalidSkills_InvalidJobs ?su_InvalidPosts_InvalidJobs ?su_InvalidJobs_InvalidJobs ?su_InvalidPart_InvalidJobs ?su_InvalidQuestion_InvalidJobs ?su_InvalidClaim_InvalidJobs ?su_TooLarge_InvalidJobs ?su_Undefined_InvalidJobs ?su_NothingToUndo_InvalidJobs ?ic_InvalidPart ?su_InvalidNumber_InvalidPart ?su_InvalidTable_InvalidPart ?su_InvalidRow_InvalidPart ?su_InvalidRules_InvalidPart ?su_InvalidMachines_InvalidPart ?su_InvalidWants_InvalidPart ?su_InvalidRota_InvalidPart ?su_InvalidDislikes_InvalidPart ?su_InvalidLoads_InvalidPart ?su_InvalidFixed_InvalidPart ?su_InvalidSkills_InvalidPart ?su_InvalidPosts_InvalidPart ?su_InvalidJobs_InvalidPart ?su_InvalidPart_InvalidPart ?su_InvalidQuestion_InvalidPart ?su_InvalidClaim_InvalidPart ?su_TooLarge_InvalidPart ?su_Undefined_InvalidPart ?su_NothingToUndo_InvalidPart ?ic_InvalidQuestion ?su_InvalidNumber_InvalidQuestion ?su_InvalidTable_InvalidQuestion ?su_InvalidRow_InvalidQuestion ?su_InvalidRules_InvalidQuestion ?su_InvalidMachines_InvalidQuestion ?su_InvalidWants_InvalidQuestion ?su_InvalidRota_InvalidQuestion ?su_InvalidDislikes_InvalidQuestion ?su_InvalidLoads_InvalidQuestion ?su_InvalidFixed_InvalidQuestion ?su_InvalidSkills_InvalidQuestion ?su_InvalidPosts_InvalidQuestion ?su_InvalidJobs_InvalidQuestion ?su_InvalidPart_InvalidQuestion ?su_InvalidQuestion_InvalidQuestion ?su_InvalidClaim_InvalidQuestion ?su_TooLarge_InvalidQuestion ?su_Undefined_InvalidQuestion ?su_NothingToUndo_InvalidQuestion ?ic_InvalidClaim ?su_InvalidNumber_InvalidClaim ?su_InvalidTable_InvalidClaim ?su_InvalidRow_InvalidClaim ?su_InvalidRules_InvalidClaim ?su_InvalidMachines_InvalidClaim ?su_InvalidWants_InvalidClaim ?su_InvalidRota_InvalidClaim ?su_InvalidDislikes_InvalidClaim ?su_InvalidLoads_InvalidClaim ?su_InvalidFixed_InvalidClaim ?su_InvalidSkills_InvalidClaim ?su_InvalidPosts_InvalidClaim ?su_InvalidJobs_InvalidClaim ?su_InvalidPart_InvalidClaim ?su_InvalidQuestion_InvalidClaim ?su_InvalidClaim_InvalidClaim ?su_TooLarge_InvalidClaim ?su_Undefined_InvalidClaim ?su_NothingToUndo_InvalidClaim ?ic_TooLarge ?su_InvalidNumber_TooLarge ?su_InvalidTable_TooLarge ?su_InvalidRow_TooLarge ?su_InvalidRules_TooLarge ?su_InvalidMachines_TooLarge ?su_InvalidWants_TooLarge ?su_InvalidRota_TooLarge ?su_InvalidDislikes_TooLarge ?su_InvalidLoads_TooLarge ?su_InvalidFixed_TooLarge ?su_InvalidSkills_TooLarge ?su_InvalidPosts_TooLarge ?su_InvalidJobs_TooLarge ?su_InvalidPart_TooLarge ?su_InvalidQuestion_TooLarge ?su_InvalidClaim_TooLarge ?su_TooLarge_TooLarge ?su_Undefined_TooLarge ?su_NothingToUndo_TooLarge ?ic_Undefined ?su_InvalidNumber_Undefined ?su_InvalidTable_Undefined ?su_InvalidRow_Undefined ?su_InvalidRules_Undefined ?su_InvalidMachines_Undefined ?su_InvalidWants_Undefined ?su_InvalidRota_Undefined ?su_InvalidDislikes_Undefined ?su_InvalidLoads_Undefined ?su_InvalidFixed_Undefined ?su_InvalidSkills_Undefined ?su_InvalidPosts_Undefined ?su_InvalidJobs_Undefined ?su_InvalidPart_Undefined ?su_InvalidQuestion_Undefined ?su_InvalidClaim_Undefined ?su_TooLarge_Undefined ?su_Undefined_Undefined ?su_NothingToUndo_Undefined ?ic_NothingToUndo ?su_InvalidNumber_NothingToUndo ?su_InvalidTable_NothingToUndo ?su_InvalidRow_NothingToUndo ?su_InvalidRules_NothingToUndo ?su_InvalidMachines_NothingToUndo ?su_InvalidWants_NothingToUndo ?su_InvalidRota_NothingToUndo ?su_InvalidDislikes_NothingToUndo ?su_InvalidLoads_NothingToUndo ?su_InvalidFixed_NothingToUndo ?su_InvalidSkills_NothingToUndo ?su_InvalidPosts_NothingToUndo ?su_InvalidJobs_NothingToUndo ?su_InvalidPart_NothingToUndo ?su_InvalidQuestion_NothingToUndo ?su_InvalidClaim_NothingToUndo ?su_TooLarge_NothingToUndo ?su_Undefined_NothingToUndo ?su_NothingToUndo_NothingToUndo ?ic_DutyError ?tC_DutyError ?su_DutyError_DutyError ?su_InvalidNumber_DutyError ?su_InvalidTable_DutyError ?su_InvalidRow_DutyError ?su_InvalidRules_DutyError ?su_InvalidMachines_DutyError ?su_InvalidWants_DutyError ?su_InvalidRota_DutyError ?su_InvalidDislikes_DutyError ?su_InvalidLoads_DutyError ?su_InvalidFixed_DutyError ?su_InvalidSkills_DutyError ?su_InvalidPosts_DutyError ?su_InvalidJobs_DutyError ?su_InvalidPart_DutyError ?su_InvalidQuestion_DutyError ?su_InvalidClaim_DutyError ?su_TooLarge_DutyError ?su_Undefined_DutyError ?su_NothingToUndo_DutyError
    (case a_law_box_g => first | k_is | rfl | decide +kernel)
    (case l_law_box => first | k_is | rfl | decide +kernel)
    (case c_law_box => first | k_is | rfl | decide +kernel)
    (case k_law_box => first | k_is | rfl | decide +kernel)
    (case a_law_take_g => first | k_is | rfl | decide +kernel)
    (case l_law_take => first | k_is | rfl | decide +kernel)
    (case c_law_take => first | k_is | rfl | decide +kernel)
    (case k_law_take => first | k_is | rfl | decide +kernel)
    (case a_law_pick_g => first | k_is | rfl | decide +kernel)
    (case l_law_pick => first | k_is | rfl | decide +kernel)
    (case c_law_pick => first | k_is | rfl | decide +kernel)
    (case k_law_pick => first | k_is | rfl | decide +kernel)
    (case a_law_ones_g => first | k_is | rfl | decide +kernel)
    (case l_law_ones => first | k_is | rfl | decide +kernel)
    (case c_law_ones => first | k_is | rfl | decide +kernel)
    (case k_law_ones => first | k_is | rfl | decide +kernel)
    (case a_law_kinds_g => first | k_is | rfl | decide +kernel)
    (case l_law_kinds => first | k_is | rfl | decide +kernel)
    (case c_law_kinds => first | k_is | rfl | decide +kernel)
    (case k_law_kinds => first | k_is | rfl | decide +kernel)
    (case a_law_g => first | k_is | rfl | decide +kernel)
    (case l_law => first | k_is | rfl | decide +kernel)
    (case c_law => first | k_is | rfl | decide +kernel)
    (case k_law => first | k_is | rfl | decide +kernel)
    (case g_InvalidNumber => first | k_is | rfl | decide +kernel)
    (case xL_InvalidNumber => first | k_is | rfl | decide +kernel)
    (case ve_InvalidNumber => first | k_is | rfl | decide +kernel)
    (case sa_InvalidNumber => first | k_is | rfl | decide +kernel)
    (case ga_InvalidNumber => first | k_is | rfl | decide +kernel)
    (case gg_InvalidNumber => first | k_is | rfl | decide +kernel)
    (case no_InvalidNumber => first | k_is | rfl | decide +kernel)
    (case in_InvalidNumber => first | k_is | rfl | decide +kernel)
    (case ti_InvalidNumber => first | k_is | rfl | decide +kernel)
    (case l_InvalidNumber_init => first | k_is | rfl | decide +kernel)
    (case c_InvalidNumber_init => first | k_is | rfl | decide +kernel)
    (case k_InvalidNumber_init => first | k_is | rfl | decide +kernel)
    (case kC_InvalidNumber => first | k_is | rfl | decide +kernel)
    (case eC_InvalidNumber => first | k_is | rfl | decide +kernel)
    (case tC_InvalidNumber => first | k_is | rfl | decide +kernel)
    (case hC_InvalidNumber => first | k_is | rfl | decide +kernel)
    (case g_InvalidTable => first | k_is | rfl | decide +kernel)
    (case xL_InvalidTable => first | k_is | rfl | decide +kernel)
    (case ve_InvalidTable => first | k_is | rfl | decide +kernel)
    (case sa_InvalidTable => first | k_is | rfl | decide +kernel)
    (case ga_InvalidTable => first | k_is | rfl | decide +kernel)
    (case gg_InvalidTable => first | k_is | rfl | decide +kernel)
    (case no_InvalidTable => first | k_is | rfl | decide +kernel)
    (case in_InvalidTable => first | k_is | rfl | decide +kernel)
    (case ti_InvalidTable => first | k_is | rfl | decide +kernel)
    (case l_InvalidTable_init => first | k_is | rfl | decide +kernel)
    (case c_InvalidTable_init => first | k_is | rfl | decide +kernel)
    (case k_InvalidTable_init => first | k_is | rfl | decide +kernel)
    (case kC_InvalidTable => first | k_is | rfl | decide +kernel)
    (case eC_InvalidTable => first | k_is | rfl | decide +kernel)
    (case tC_InvalidTable => first | k_is | rfl | decide +kernel)
    (case hC_InvalidTable => first | k_is | rfl | decide +kernel)
    (case g_InvalidRow => first | k_is | rfl | decide +kernel)
    (case xL_InvalidRow => first | k_is | rfl | decide +kernel)
    (case ve_InvalidRow => first | k_is | rfl | decide +kernel)
    (case sa_InvalidRow => first | k_is | rfl | decide +kernel)
    (case ga_InvalidRow => first | k_is | rfl | decide +kernel)
    (case gg_InvalidRow => first | k_is | rfl | decide +kernel)
    (case no_InvalidRow => first | k_is | rfl | decide +kernel)
    (case in_InvalidRow => first | k_is | rfl | decide +kernel)
    (case ti_InvalidRow => first | k_is | rfl | decide +kernel)
    (case l_InvalidRow_init => first | k_is | rfl | decide +kernel)
    (case c_InvalidRow_init => first | k_is | rfl | decide +kernel)
    (case k_InvalidRow_init => first | k_is | rfl | decide +kernel)
    (case kC_InvalidRow => first | k_is | rfl | decide +kernel)
    (case eC_InvalidRow => first | k_is | rfl | decide +kernel)
    (case tC_InvalidRow => first | k_is | rfl | decide +kernel)
    (case hC_InvalidRow => first | k_is | rfl | decide +kernel)
    (case g_InvalidRules => first | k_is | rfl | decide +kernel)
    (case xL_InvalidRules => first | k_is | rfl | decide +kernel)
    (case ve_InvalidRules => first | k_is | rfl | decide +kernel)
    (case sa_InvalidRules => first | k_is | rfl | decide +kernel)
    (case ga_InvalidRules => first | k_is | rfl | decide +kernel)
    (case gg_InvalidRules => first | k_is | rfl | decide +kernel)
    (case no_InvalidRules => first | k_is | rfl | decide +kernel)
    (case in_InvalidRules => first | k_is | rfl | decide +kernel)
    (case ti_InvalidRules => first | k_is | rfl | decide +kernel)
    (case l_InvalidRules_init => first | k_is | rfl | decide +kernel)
    (case c_InvalidRules_init => first | k_is | rfl | decide +kernel)
    (case k_InvalidRules_init => first | k_is | rfl | decide +kernel)
    (case kC_InvalidRules => first | k_is | rfl | decide +kernel)
    (case eC_InvalidRules => first | k_is | rfl | decide +kernel)
    (case tC_InvalidRules => first | k_is | rfl | decide +kernel)
    (case hC_InvalidRules => first | k_is | rfl | decide +kernel)
    (case g_InvalidMachines => first | k_is | rfl | decide +kernel)
    (case xL_InvalidMachines => first | k_is | rfl | decide +kernel)
    (case ve_InvalidMachines => first | k_is | rfl | decide +kernel)
    (case sa_InvalidMachines => first | k_is | rfl | decide +kernel)
    (case ga_InvalidMachines => first | k_is | rfl | decide +kernel)
    (case gg_InvalidMachines => first | k_is | rfl | decide +kernel)
    (case no_InvalidMachines => first | k_is | rfl | decide +kernel)
    (case in_InvalidMachines => first | k_is | rfl | decide +kernel)
    (case ti_InvalidMachines => first | k_is | rfl | decide +kernel)
    (case l_InvalidMachines_init => first | k_is | rfl | decide +kernel)
    (case c_InvalidMachines_init => first | k_is | rfl | decide +kernel)
    (case k_InvalidMachines_init => first | k_is | rfl | decide +kernel)
    (case kC_InvalidMachines => first | k_is | rfl | decide +kernel)
    (case eC_InvalidMachines => first | k_is | rfl | decide +kernel)
    (case tC_InvalidMachines => first | k_is | rfl | decide +kernel)
    (case hC_InvalidMachines => first | k_is | rfl | decide +kernel)
    (case g_InvalidWants => first | k_is | rfl | decide +kernel)
    (case xL_InvalidWants => first | k_is | rfl | decide +kernel)
    (case ve_InvalidWants => first | k_is | rfl | decide +kernel)
    (case sa_InvalidWants => first | k_is | rfl | decide +kernel)
    (case ga_InvalidWants => first | k_is | rfl | decide +kernel)
    (case gg_InvalidWants => first | k_is | rfl | decide +kernel)
    (case no_InvalidWants => first | k_is | rfl | decide +kernel)
    (case in_InvalidWants => first | k_is | rfl | decide +kernel)
    (case ti_InvalidWants => first | k_is | rfl | decide +kernel)
    (case l_InvalidWants_init => first | k_is | rfl | decide +kernel)
    (case c_InvalidWants_init => first | k_is | rfl | decide +kernel)
    (case k_InvalidWants_init => first | k_is | rfl | decide +kernel)
    (case kC_InvalidWants => first | k_is | rfl | decide +kernel)
    (case eC_InvalidWants => first | k_is | rfl | decide +kernel)
    (case tC_InvalidWants => first | k_is | rfl | decide +kernel)
    (case hC_InvalidWants => first | k_is | rfl | decide +kernel)
    (case g_InvalidRota => first | k_is | rfl | decide +kernel)
    (case xL_InvalidRota => first | k_is | rfl | decide +kernel)
    (case ve_InvalidRota => first | k_is | rfl | decide +kernel)
    (case sa_InvalidRota => first | k_is | rfl | decide +kernel)
    (case ga_InvalidRota => first | k_is | rfl | decide +kernel)
    (case gg_InvalidRota => first | k_is | rfl | decide +kernel)
    (case no_InvalidRota => first | k_is | rfl | decide +kernel)
    (case in_InvalidRota => first | k_is | rfl | decide +kernel)
    (case ti_InvalidRota => first | k_is | rfl | decide +kernel)
    (case l_InvalidRota_init => first | k_is | rfl | decide +kernel)
    (case c_InvalidRota_init => first | k_is | rfl | decide +kernel)
    (case k_InvalidRota_init => first | k_is | rfl | decide +kernel)
    (case kC_InvalidRota => first | k_is | rfl | decide +kernel)
    (case eC_InvalidRota => first | k_is | rfl | decide +kernel)
    (case tC_InvalidRota => first | k_is | rfl | decide +kernel)
    (case hC_InvalidRota => first | k_is | rfl | decide +kernel)
    (case g_InvalidDislikes => first | k_is | rfl | decide +kernel)
    (case xL_InvalidDislikes => first | k_is | rfl | decide +kernel)
    (case ve_InvalidDislikes => first | k_is | rfl | decide +kernel)
    (case sa_InvalidDislikes => first | k_is | rfl | decide +kernel)
    (case ga_InvalidDislikes => first | k_is | rfl | decide +kernel)
    (case gg_InvalidDislikes => first | k_is | rfl | decide +kernel)
    (case no_InvalidDislikes => first | k_is | rfl | decide +kernel)
    (case in_InvalidDislikes => first | k_is | rfl | decide +kernel)
    (case ti_InvalidDislikes => first | k_is | rfl | decide +kernel)
    (case l_InvalidDislikes_init => first | k_is | rfl | decide +kernel)
    (case c_InvalidDislikes_init => first | k_is | rfl | decide +kernel)
    (case k_InvalidDislikes_init => first | k_is | rfl | decide +kernel)
    (case kC_InvalidDislikes => first | k_is | rfl | decide +kernel)
    (case eC_InvalidDislikes => first | k_is | rfl | decide +kernel)
    (case tC_InvalidDislikes => first | k_is | rfl | decide +kernel)
    (case hC_InvalidDislikes => first | k_is | rfl | decide +kernel)
    (case g_InvalidLoads => first | k_is | rfl | decide +kernel)
    (case xL_InvalidLoads => first | k_is | rfl | decide +kernel)
    (case ve_InvalidLoads => first | k_is | rfl | decide +kernel)
    (case sa_InvalidLoads => first | k_is | rfl | decide +kernel)
    (case ga_InvalidLoads => first | k_is | rfl | decide +kernel)
    (case gg_InvalidLoads => first | k_is | rfl | decide +kernel)
    (case no_InvalidLoads => first | k_is | rfl | decide +kernel)
    (case in_InvalidLoads => first | k_is | rfl | decide +kernel)
    (case ti_InvalidLoads => first | k_is | rfl | decide +kernel)
    (case l_InvalidLoads_init => first | k_is | rfl | decide +kernel)
    (case c_InvalidLoads_init => first | k_is | rfl | decide +kernel)
    (case k_InvalidLoads_init => first | k_is | rfl | decide +kernel)
    (case kC_InvalidLoads => first | k_is | rfl | decide +kernel)
    (case eC_InvalidLoads => first | k_is | rfl | decide +kernel)
    (case tC_InvalidLoads => first | k_is | rfl | decide +kernel)
    (case hC_InvalidLoads => first | k_is | rfl | decide +kernel)
    (case g_InvalidFixed => first | k_is | rfl | decide +kernel)
    (case xL_InvalidFixed => first | k_is | rfl | decide +kernel)
    (case ve_InvalidFixed => first | k_is | rfl | decide +kernel)
    (case sa_InvalidFixed => first | k_is | rfl | decide +kernel)
    (case ga_InvalidFixed => first | k_is | rfl | decide +kernel)
    (case gg_InvalidFixed => first | k_is | rfl | decide +kernel)
    (case no_InvalidFixed => first | k_is | rfl | decide +kernel)
    (case in_InvalidFixed => first | k_is | rfl | decide +kernel)
    (case ti_InvalidFixed => first | k_is | rfl | decide +kernel)
    (case l_InvalidFixed_init => first | k_is | rfl | decide +kernel)
    (case c_InvalidFixed_init => first | k_is | rfl | decide +kernel)
    (case k_InvalidFixed_init => first | k_is | rfl | decide +kernel)
    (case kC_InvalidFixed => first | k_is | rfl | decide +kernel)
    (case eC_InvalidFixed => first | k_is | rfl | decide +kernel)
    (case tC_InvalidFixed => first | k_is | rfl | decide +kernel)
    (case hC_InvalidFixed => first | k_is | rfl | decide +kernel)
    (case g_InvalidSkills => first | k_is | rfl | decide +kernel)
    (case xL_InvalidSkills => first | k_is | rfl | decide +kernel)
    (case ve_InvalidSkills => first | k_is | rfl | decide +kernel)
    (case sa_InvalidSkills => first | k_is | rfl | decide +kernel)
    (case ga_InvalidSkills => first | k_is | rfl | decide +kernel)
    (case gg_InvalidSkills => first | k_is | rfl | decide +kernel)
    (case no_InvalidSkills => first | k_is | rfl | decide +kernel)
    (case in_InvalidSkills => first | k_is | rfl | decide +kernel)
    (case ti_InvalidSkills => first | k_is | rfl | decide +kernel)
    (case l_InvalidSkills_init => first | k_is | rfl | decide +kernel)
    (case c_InvalidSkills_init => first | k_is | rfl | decide +kernel)
    (case k_InvalidSkills_init => first | k_is | rfl | decide +kernel)
    (case kC_InvalidSkills => first | k_is | rfl | decide +kernel)
    (case eC_InvalidSkills => first | k_is | rfl | decide +kernel)
    (case tC_InvalidSkills => first | k_is | rfl | decide +kernel)
    (case hC_InvalidSkills => first | k_is | rfl | decide +kernel)
    (case g_InvalidPosts => first | k_is | rfl | decide +kernel)
    (case xL_InvalidPosts => first | k_is | rfl | decide +kernel)
    (case ve_InvalidPosts => first | k_is | rfl | decide +kernel)
    (case sa_InvalidPosts => first | k_is | rfl | decide +kernel)
    (case ga_InvalidPosts => first | k_is | rfl | decide +kernel)
    (case gg_InvalidPosts => first | k_is | rfl | decide +kernel)
    (case no_InvalidPosts => first | k_is | rfl | decide +kernel)
    (case in_InvalidPosts => first | k_is | rfl | decide +kernel)
    (case ti_InvalidPosts => first | k_is | rfl | decide +kernel)
    (case l_InvalidPosts_init => first | k_is | rfl | decide +kernel)
    (case c_InvalidPosts_init => first | k_is | rfl | decide +kernel)
    (case k_InvalidPosts_init => first | k_is | rfl | decide +kernel)
    (case kC_InvalidPosts => first | k_is | rfl | decide +kernel)
    (case eC_InvalidPosts => first | k_is | rfl | decide +kernel)
    (case tC_InvalidPosts => first | k_is | rfl | decide +kernel)
    (case hC_InvalidPosts => first | k_is | rfl | decide +kernel)
    (case g_InvalidJobs => first | k_is | rfl | decide +kernel)
    (case xL_InvalidJobs => first | k_is | rfl | decide +kernel)
    (case ve_InvalidJobs => first | k_is | rfl | decide +kernel)
    (case sa_InvalidJobs => first | k_is | rfl | decide +kernel)
    (case ga_InvalidJobs => first | k_is | rfl | decide +kernel)
    (case gg_InvalidJobs => first | k_is | rfl | decide +kernel)
    (case no_InvalidJobs => first | k_is | rfl | decide +kernel)
    (case in_InvalidJobs => first | k_is | rfl | decide +kernel)
    (case ti_InvalidJobs => first | k_is | rfl | decide +kernel)
    (case l_InvalidJobs_init => first | k_is | rfl | decide +kernel)
    (case c_InvalidJobs_init => first | k_is | rfl | decide +kernel)
    (case k_InvalidJobs_init => first | k_is | rfl | decide +kernel)
    (case kC_InvalidJobs => first | k_is | rfl | decide +kernel)
    (case eC_InvalidJobs => first | k_is | rfl | decide +kernel)
    (case tC_InvalidJobs => first | k_is | rfl | decide +kernel)
    (case hC_InvalidJobs => first | k_is | rfl | decide +kernel)
    (case g_InvalidPart => first | k_is | rfl | decide +kernel)
    (case xL_InvalidPart => first | k_is | rfl | decide +kernel)
    (case ve_InvalidPart => first | k_is | rfl | decide +kernel)
    (case sa_InvalidPart => first | k_is | rfl | decide +kernel)
    (case ga_InvalidPart => first | k_is | rfl | decide +kernel)
    (case gg_InvalidPart => first | k_is | rfl | decide +kernel)
    (case no_InvalidPart => first | k_is | rfl | decide +kernel)
    (case in_InvalidPart => first | k_is | rfl | decide +kernel)
    (case ti_InvalidPart => first | k_is | rfl | decide +kernel)
    (case l_InvalidPart_init => first | k_is | rfl | decide +kernel)
    (case c_InvalidPart_init => first | k_is | rfl | decide +kernel)
    (case k_InvalidPart_init => first | k_is | rfl | decide +kernel)
    (case kC_InvalidPart => first | k_is | rfl | decide +kernel)
    (case eC_InvalidPart => first | k_is | rfl | decide +kernel)
    (case tC_InvalidPart => first | k_is | rfl | decide +kernel)
    (case hC_InvalidPart => first | k_is | rfl | decide +kernel)
    (case g_InvalidQuestion => first | k_is | rfl | decide +kernel)
    (case xL_InvalidQuestion => first | k_is | rfl | decide +kernel)
    (case ve_InvalidQuestion => first | k_is | rfl | decide +kernel)
    (case sa_InvalidQuestion => first | k_is | rfl | decide +kernel)
    (case ga_InvalidQuestion => first | k_is | rfl | decide +kernel)
    (case gg_InvalidQuestion => first | k_is | rfl | decide +kernel)
    (case no_InvalidQuestion => first | k_is | rfl | decide +kernel)
    (case in_InvalidQuestion => first | k_is | rfl | decide +kernel)
    (case ti_InvalidQuestion => first | k_is | rfl | decide +kernel)
    (case l_InvalidQuestion_init => first | k_is | rfl | decide +kernel)
    (case c_InvalidQuestion_init => first | k_is | rfl | decide +kernel)
    (case k_InvalidQuestion_init => first | k_is | rfl | decide +kernel)
    (case kC_InvalidQuestion => first | k_is | rfl | decide +kernel)
    (case eC_InvalidQuestion => first | k_is | rfl | decide +kernel)
    (case tC_InvalidQuestion => first | k_is | rfl | decide +kernel)
    (case hC_InvalidQuestion => first | k_is | rfl | decide +kernel)
    (case g_InvalidClaim => first | k_is | rfl | decide +kernel)
    (case xL_InvalidClaim => first | k_is | rfl | decide +kernel)
    (case ve_InvalidClaim => first | k_is | rfl | decide +kernel)
    (case sa_InvalidClaim => first | k_is | rfl | decide +kernel)
    (case ga_InvalidClaim => first | k_is | rfl | decide +kernel)
    (case gg_InvalidClaim => first | k_is | rfl | decide +kernel)
    (case no_InvalidClaim => first | k_is | rfl | decide +kernel)
    (case in_InvalidClaim => first | k_is | rfl | decide +kernel)
    (case ti_InvalidClaim => first | k_is | rfl | decide +kernel)
    (case l_InvalidClaim_init => first | k_is | rfl | decide +kernel)
    (case c_InvalidClaim_init => first | k_is | rfl | decide +kernel)
    (case k_InvalidClaim_init => first | k_is | rfl | decide +kernel)
    (case kC_InvalidClaim => first | k_is | rfl | decide +kernel)
    (case eC_InvalidClaim => first | k_is | rfl | decide +kernel)
    (case tC_InvalidClaim => first | k_is | rfl | decide +kernel)
    (case hC_InvalidClaim => first | k_is | rfl | decide +kernel)
    (case g_TooLarge => first | k_is | rfl | decide +kernel)
    (case xL_TooLarge => first | k_is | rfl | decide +kernel)
    (case ve_TooLarge => first | k_is | rfl | decide +kernel)
    (case sa_TooLarge => first | k_is | rfl | decide +kernel)
    (case ga_TooLarge => first | k_is | rfl | decide +kernel)
    (case gg_TooLarge => first | k_is | rfl | decide +kernel)
    (case no_TooLarge => first | k_is | rfl | decide +kernel)
    (case in_TooLarge => first | k_is | rfl | decide +kernel)
    (case ti_TooLarge => first | k_is | rfl | decide +kernel)
    (case l_TooLarge_init => first | k_is | rfl | decide +kernel)
    (case c_TooLarge_init => first | k_is | rfl | decide +kernel)
    (case k_TooLarge_init => first | k_is | rfl | decide +kernel)
    (case kC_TooLarge => first | k_is | rfl | decide +kernel)
    (case eC_TooLarge => first | k_is | rfl | decide +kernel)
    (case tC_TooLarge => first | k_is | rfl | decide +kernel)
    (case hC_TooLarge => first | k_is | rfl | decide +kernel)
    (case g_Undefined => first | k_is | rfl | decide +kernel)
    (case xL_Undefined => first | k_is | rfl | decide +kernel)
    (case ve_Undefined => first | k_is | rfl | decide +kernel)
    (case sa_Undefined => first | k_is | rfl | decide +kernel)
    (case ga_Undefined => first | k_is | rfl | decide +kernel)
    (case gg_Undefined => first | k_is | rfl | decide +kernel)
    (case no_Undefined => first | k_is | rfl | decide +kernel)
    (case in_Undefined => first | k_is | rfl | decide +kernel)
    (case ti_Undefined => first | k_is | rfl | decide +kernel)
    (case l_Undefined_init => first | k_is | rfl | decide +kernel)
    (case c_Undefined_init => first | k_is | rfl | decide +kernel)
    (case k_Undefined_init => first | k_is | rfl | decide +kernel)
    (case kC_Undefined => first | k_is | rfl | decide +kernel)
    (case eC_Undefined => first | k_is | rfl | decide +kernel)
    (case tC_Undefined => first | k_is | rfl | decide +kernel)
    (case hC_Undefined => first | k_is | rfl | decide +kernel)
    (case g_NothingToUndo => first | k_is | rfl | decide +kernel)
    (case xL_NothingToUndo => first | k_is | rfl | decide +kernel)
    (case ve_NothingToUndo => first | k_is | rfl | decide +kernel)
    (case sa_NothingToUndo => first | k_is | rfl | decide +kernel)
    (case ga_NothingToUndo => first | k_is | rfl | decide +kernel)
    (case gg_NothingToUndo => first | k_is | rfl | decide +kernel)
    (case no_NothingToUndo => first | k_is | rfl | decide +kernel)
    (case in_NothingToUndo => first | k_is | rfl | decide +kernel)
    (case ti_NothingToUndo => first | k_is | rfl | decide +kernel)
    (case l_NothingToUndo_init => first | k_is | rfl | decide +kernel)
    (case c_NothingToUndo_init => first | k_is | rfl | decide +kernel)
    (case k_NothingToUndo_init => first | k_is | rfl | decide +kernel)
    (case kC_NothingToUndo => first | k_is | rfl | decide +kernel)
    (case eC_NothingToUndo => first | k_is | rfl | decide +kernel)
    (case tC_NothingToUndo => first | k_is | rfl | decide +kernel)
    (case hC_NothingToUndo => first | k_is | rfl | decide +kernel)
    (case n_ValueError_g => first | k_is | rfl | decide +kernel)
    (case n_abs_g => first | k_is | rfl | decide +kernel)
    (case n_int_g => first | k_is | rfl | decide +kernel)
    (case n_isinstance_g => first | k_is | rfl | decide +kernel)
    (case n_len_g => first | k_is | rfl | decide +kernel)
    (case n_range_g => first | k_is | rfl | decide +kernel)
    (case n_str_g => first | k_is | rfl | decide +kernel)
    (case g_DutyError => first | k_is | rfl | decide +kernel)
    (case hn_xx => first | k_is | rfl | decide +kernel)
    (case ht_xx => first | k_is | rfl | decide +kernel)
    (case ha_InvalidNumber => first | k_is | rfl | decide +kernel)
    (case hm_InvalidNumber => first | k_is | rfl | decide +kernel)
    (case sv_InvalidNumber => first | k_is | rfl | decide +kernel)
    (case ha_InvalidTable => first | k_is | rfl | decide +kernel)
    (case hm_InvalidTable => first | k_is | rfl | decide +kernel)
    (case sv_InvalidTable => first | k_is | rfl | decide +kernel)
    (case ha_InvalidRow => first | k_is | rfl | decide +kernel)
    (case hm_InvalidRow => first | k_is | rfl | decide +kernel)
    (case sv_InvalidRow => first | k_is | rfl | decide +kernel)
    (case ha_InvalidRules => first | k_is | rfl | decide +kernel)
    (case hm_InvalidRules => first | k_is | rfl | decide +kernel)
    (case sv_InvalidRules => first | k_is | rfl | decide +kernel)
    (case ha_InvalidMachines => first | k_is | rfl | decide +kernel)
    (case hm_InvalidMachines => first | k_is | rfl | decide +kernel)
    (case sv_InvalidMachines => first | k_is | rfl | decide +kernel)
    (case ha_InvalidWants => first | k_is | rfl | decide +kernel)
    (case hm_InvalidWants => first | k_is | rfl | decide +kernel)
    (case sv_InvalidWants => first | k_is | rfl | decide +kernel)
    (case ha_InvalidRota => first | k_is | rfl | decide +kernel)
    (case hm_InvalidRota => first | k_is | rfl | decide +kernel)
    (case sv_InvalidRota => first | k_is | rfl | decide +kernel)
    (case ha_InvalidDislikes => first | k_is | rfl | decide +kernel)
    (case hm_InvalidDislikes => first | k_is | rfl | decide +kernel)
    (case sv_InvalidDislikes => first | k_is | rfl | decide +kernel)
    (case ha_InvalidLoads => first | k_is | rfl | decide +kernel)
    (case hm_InvalidLoads => first | k_is | rfl | decide +kernel)
    (case sv_InvalidLoads => first | k_is | rfl | decide +kernel)
    (case ha_InvalidFixed => first | k_is | rfl | decide +kernel)
    (case hm_InvalidFixed => first | k_is | rfl | decide +kernel)
    (case sv_InvalidFixed => first | k_is | rfl | decide +kernel)
    (case ha_InvalidSkills => first | k_is | rfl | decide +kernel)
    (case hm_InvalidSkills => first | k_is | rfl | decide +kernel)
    (case sv_InvalidSkills => first | k_is | rfl | decide +kernel)
    (case ha_InvalidPosts => first | k_is | rfl | decide +kernel)
    (case hm_InvalidPosts => first | k_is | rfl | decide +kernel)
    (case sv_InvalidPosts => first | k_is | rfl | decide +kernel)
    (case ha_InvalidJobs => first | k_is | rfl | decide +kernel)
    (case hm_InvalidJobs => first | k_is | rfl | decide +kernel)
    (case sv_InvalidJobs => first | k_is | rfl | decide +kernel)
    (case ha_InvalidPart => first | k_is | rfl | decide +kernel)
    (case hm_InvalidPart => first | k_is | rfl | decide +kernel)
    (case sv_InvalidPart => first | k_is | rfl | decide +kernel)
    (case ha_InvalidQuestion => first | k_is | rfl | decide +kernel)
    (case hm_InvalidQuestion => first | k_is | rfl | decide +kernel)
    (case sv_InvalidQuestion => first | k_is | rfl | decide +kernel)
    (case ha_InvalidClaim => first | k_is | rfl | decide +kernel)
    (case hm_InvalidClaim => first | k_is | rfl | decide +kernel)
    (case sv_InvalidClaim => first | k_is | rfl | decide +kernel)
    (case ha_TooLarge => first | k_is | rfl | decide +kernel)
    (case hm_TooLarge => first | k_is | rfl | decide +kernel)
    (case sv_TooLarge => first | k_is | rfl | decide +kernel)
    (case ha_Undefined => first | k_is | rfl | decide +kernel)
    (case hm_Undefined => first | k_is | rfl | decide +kernel)
    (case sv_Undefined => first | k_is | rfl | decide +kernel)
    (case ha_NothingToUndo => first | k_is | rfl | decide +kernel)
    (case hm_NothingToUndo => first | k_is | rfl | decide +kernel)
    (case sv_NothingToUndo => first | k_is | rfl | decide +kernel)
    (case ic_InvalidNumber => first | k_is | rfl | decide +kernel)
    (case su_InvalidNumber_InvalidNumber => first | k_is | rfl | decide +kernel)
    (case su_InvalidTable_InvalidNumber => first | k_is | rfl | decide +kernel)
    (case su_InvalidRow_InvalidNumber => first | k_is | rfl | decide +kernel)
    (case su_InvalidRules_InvalidNumber => first | k_is | rfl | decide +kernel)
    (case su_InvalidMachines_InvalidNumber => first | k_is | rfl | decide +kernel)
    (case su_InvalidWants_InvalidNumber => first | k_is | rfl | decide +kernel)
    (case su_InvalidRota_InvalidNumber => first | k_is | rfl | decide +kernel)
    (case su_InvalidDislikes_InvalidNumber => first | k_is | rfl | decide +kernel)
    (case su_InvalidLoads_InvalidNumber => first | k_is | rfl | decide +kernel)
    (case su_InvalidFixed_InvalidNumber => first | k_is | rfl | decide +kernel)
    (case su_InvalidSkills_InvalidNumber => first | k_is | rfl | decide +kernel)
    (case su_InvalidPosts_InvalidNumber => first | k_is | rfl | decide +kernel)
    (case su_InvalidJobs_InvalidNumber => first | k_is | rfl | decide +kernel)
    (case su_InvalidPart_InvalidNumber => first | k_is | rfl | decide +kernel)
    (case su_InvalidQuestion_InvalidNumber => first | k_is | rfl | decide +kernel)
    (case su_InvalidClaim_InvalidNumber => first | k_is | rfl | decide +kernel)
    (case su_TooLarge_InvalidNumber => first | k_is | rfl | decide +kernel)
    (case su_Undefined_InvalidNumber => first | k_is | rfl | decide +kernel)
    (case su_NothingToUndo_InvalidNumber => first | k_is | rfl | decide +kernel)
    (case ic_InvalidTable => first | k_is | rfl | decide +kernel)
    (case su_InvalidNumber_InvalidTable => first | k_is | rfl | decide +kernel)
    (case su_InvalidTable_InvalidTable => first | k_is | rfl | decide +kernel)
    (case su_InvalidRow_InvalidTable => first | k_is | rfl | decide +kernel)
    (case su_InvalidRules_InvalidTable => first | k_is | rfl | decide +kernel)
    (case su_InvalidMachines_InvalidTable => first | k_is | rfl | decide +kernel)
    (case su_InvalidWants_InvalidTable => first | k_is | rfl | decide +kernel)
    (case su_InvalidRota_InvalidTable => first | k_is | rfl | decide +kernel)
    (case su_InvalidDislikes_InvalidTable => first | k_is | rfl | decide +kernel)
    (case su_InvalidLoads_InvalidTable => first | k_is | rfl | decide +kernel)
    (case su_InvalidFixed_InvalidTable => first | k_is | rfl | decide +kernel)
    (case su_InvalidSkills_InvalidTable => first | k_is | rfl | decide +kernel)
    (case su_InvalidPosts_InvalidTable => first | k_is | rfl | decide +kernel)
    (case su_InvalidJobs_InvalidTable => first | k_is | rfl | decide +kernel)
    (case su_InvalidPart_InvalidTable => first | k_is | rfl | decide +kernel)
    (case su_InvalidQuestion_InvalidTable => first | k_is | rfl | decide +kernel)
    (case su_InvalidClaim_InvalidTable => first | k_is | rfl | decide +kernel)
    (case su_TooLarge_InvalidTable => first | k_is | rfl | decide +kernel)
    (case su_Undefined_InvalidTable => first | k_is | rfl | decide +kernel)
    (case su_NothingToUndo_InvalidTable => first | k_is | rfl | decide +kernel)
    (case ic_InvalidRow => first | k_is | rfl | decide +kernel)
    (case su_InvalidNumber_InvalidRow => first | k_is | rfl | decide +kernel)
    (case su_InvalidTable_InvalidRow => first | k_is | rfl | decide +kernel)
    (case su_InvalidRow_InvalidRow => first | k_is | rfl | decide +kernel)
    (case su_InvalidRules_InvalidRow => first | k_is | rfl | decide +kernel)
    (case su_InvalidMachines_InvalidRow => first | k_is | rfl | decide +kernel)
    (case su_InvalidWants_InvalidRow => first | k_is | rfl | decide +kernel)
    (case su_InvalidRota_InvalidRow => first | k_is | rfl | decide +kernel)
    (case su_InvalidDislikes_InvalidRow => first | k_is | rfl | decide +kernel)
    (case su_InvalidLoads_InvalidRow => first | k_is | rfl | decide +kernel)
    (case su_InvalidFixed_InvalidRow => first | k_is | rfl | decide +kernel)
    (case su_InvalidSkills_InvalidRow => first | k_is | rfl | decide +kernel)
    (case su_InvalidPosts_InvalidRow => first | k_is | rfl | decide +kernel)
    (case su_InvalidJobs_InvalidRow => first | k_is | rfl | decide +kernel)
    (case su_InvalidPart_InvalidRow => first | k_is | rfl | decide +kernel)
    (case su_InvalidQuestion_InvalidRow => first | k_is | rfl | decide +kernel)
    (case su_InvalidClaim_InvalidRow => first | k_is | rfl | decide +kernel)
    (case su_TooLarge_InvalidRow => first | k_is | rfl | decide +kernel)
    (case su_Undefined_InvalidRow => first | k_is | rfl | decide +kernel)
    (case su_NothingToUndo_InvalidRow => first | k_is | rfl | decide +kernel)
    (case ic_InvalidRules => first | k_is | rfl | decide +kernel)
    (case su_InvalidNumber_InvalidRules => first | k_is | rfl | decide +kernel)
    (case su_InvalidTable_InvalidRules => first | k_is | rfl | decide +kernel)
    (case su_InvalidRow_InvalidRules => first | k_is | rfl | decide +kernel)
    (case su_InvalidRules_InvalidRules => first | k_is | rfl | decide +kernel)
    (case su_InvalidMachines_InvalidRules => first | k_is | rfl | decide +kernel)
    (case su_InvalidWants_InvalidRules => first | k_is | rfl | decide +kernel)
    (case su_InvalidRota_InvalidRules => first | k_is | rfl | decide +kernel)
    (case su_InvalidDislikes_InvalidRules => first | k_is | rfl | decide +kernel)
    (case su_InvalidLoads_InvalidRules => first | k_is | rfl | decide +kernel)
    (case su_InvalidFixed_InvalidRules => first | k_is | rfl | decide +kernel)
    (case su_InvalidSkills_InvalidRules => first | k_is | rfl | decide +kernel)
    (case su_InvalidPosts_InvalidRules => first | k_is | rfl | decide +kernel)
    (case su_InvalidJobs_InvalidRules => first | k_is | rfl | decide +kernel)
    (case su_InvalidPart_InvalidRules => first | k_is | rfl | decide +kernel)
    (case su_InvalidQuestion_InvalidRules => first | k_is | rfl | decide +kernel)
    (case su_InvalidClaim_InvalidRules => first | k_is | rfl | decide +kernel)
    (case su_TooLarge_InvalidRules => first | k_is | rfl | decide +kernel)
    (case su_Undefined_InvalidRules => first | k_is | rfl | decide +kernel)
    (case su_NothingToUndo_InvalidRules => first | k_is | rfl | decide +kernel)
    (case ic_InvalidMachines => first | k_is | rfl | decide +kernel)
    (case su_InvalidNumber_InvalidMachines => first | k_is | rfl | decide +kernel)
    (case su_InvalidTable_InvalidMachines => first | k_is | rfl | decide +kernel)
    (case su_InvalidRow_InvalidMachines => first | k_is | rfl | decide +kernel)
    (case su_InvalidRules_InvalidMachines => first | k_is | rfl | decide +kernel)
    (case su_InvalidMachines_InvalidMachines => first | k_is | rfl | decide +kernel)
    (case su_InvalidWants_InvalidMachines => first | k_is | rfl | decide +kernel)
    (case su_InvalidRota_InvalidMachines => first | k_is | rfl | decide +kernel)
    (case su_InvalidDislikes_InvalidMachines => first | k_is | rfl | decide +kernel)
    (case su_InvalidLoads_InvalidMachines => first | k_is | rfl | decide +kernel)
    (case su_InvalidFixed_InvalidMachines => first | k_is | rfl | decide +kernel)
    (case su_InvalidSkills_InvalidMachines => first | k_is | rfl | decide +kernel)
    (case su_InvalidPosts_InvalidMachines => first | k_is | rfl | decide +kernel)
    (case su_InvalidJobs_InvalidMachines => first | k_is | rfl | decide +kernel)
    (case su_InvalidPart_InvalidMachines => first | k_is | rfl | decide +kernel)
    (case su_InvalidQuestion_InvalidMachines => first | k_is | rfl | decide +kernel)
    (case su_InvalidClaim_InvalidMachines => first | k_is | rfl | decide +kernel)
    (case su_TooLarge_InvalidMachines => first | k_is | rfl | decide +kernel)
    (case su_Undefined_InvalidMachines => first | k_is | rfl | decide +kernel)
    (case su_NothingToUndo_InvalidMachines => first | k_is | rfl | decide +kernel)
    (case ic_InvalidWants => first | k_is | rfl | decide +kernel)
    (case su_InvalidNumber_InvalidWants => first | k_is | rfl | decide +kernel)
    (case su_InvalidTable_InvalidWants => first | k_is | rfl | decide +kernel)
    (case su_InvalidRow_InvalidWants => first | k_is | rfl | decide +kernel)
    (case su_InvalidRules_InvalidWants => first | k_is | rfl | decide +kernel)
    (case su_InvalidMachines_InvalidWants => first | k_is | rfl | decide +kernel)
    (case su_InvalidWants_InvalidWants => first | k_is | rfl | decide +kernel)
    (case su_InvalidRota_InvalidWants => first | k_is | rfl | decide +kernel)
    (case su_InvalidDislikes_InvalidWants => first | k_is | rfl | decide +kernel)
    (case su_InvalidLoads_InvalidWants => first | k_is | rfl | decide +kernel)
    (case su_InvalidFixed_InvalidWants => first | k_is | rfl | decide +kernel)
    (case su_InvalidSkills_InvalidWants => first | k_is | rfl | decide +kernel)
    (case su_InvalidPosts_InvalidWants => first | k_is | rfl | decide +kernel)
    (case su_InvalidJobs_InvalidWants => first | k_is | rfl | decide +kernel)
    (case su_InvalidPart_InvalidWants => first | k_is | rfl | decide +kernel)
    (case su_InvalidQuestion_InvalidWants => first | k_is | rfl | decide +kernel)
    (case su_InvalidClaim_InvalidWants => first | k_is | rfl | decide +kernel)
    (case su_TooLarge_InvalidWants => first | k_is | rfl | decide +kernel)
    (case su_Undefined_InvalidWants => first | k_is | rfl | decide +kernel)
    (case su_NothingToUndo_InvalidWants => first | k_is | rfl | decide +kernel)
    (case ic_InvalidRota => first | k_is | rfl | decide +kernel)
    (case su_InvalidNumber_InvalidRota => first | k_is | rfl | decide +kernel)
    (case su_InvalidTable_InvalidRota => first | k_is | rfl | decide +kernel)
    (case su_InvalidRow_InvalidRota => first | k_is | rfl | decide +kernel)
    (case su_InvalidRules_InvalidRota => first | k_is | rfl | decide +kernel)
    (case su_InvalidMachines_InvalidRota => first | k_is | rfl | decide +kernel)
    (case su_InvalidWants_InvalidRota => first | k_is | rfl | decide +kernel)
    (case su_InvalidRota_InvalidRota => first | k_is | rfl | decide +kernel)
    (case su_InvalidDislikes_InvalidRota => first | k_is | rfl | decide +kernel)
    (case su_InvalidLoads_InvalidRota => first | k_is | rfl | decide +kernel)
    (case su_InvalidFixed_InvalidRota => first | k_is | rfl | decide +kernel)
    (case su_InvalidSkills_InvalidRota => first | k_is | rfl | decide +kernel)
    (case su_InvalidPosts_InvalidRota => first | k_is | rfl | decide +kernel)
    (case su_InvalidJobs_InvalidRota => first | k_is | rfl | decide +kernel)
    (case su_InvalidPart_InvalidRota => first | k_is | rfl | decide +kernel)
    (case su_InvalidQuestion_InvalidRota => first | k_is | rfl | decide +kernel)
    (case su_InvalidClaim_InvalidRota => first | k_is | rfl | decide +kernel)
    (case su_TooLarge_InvalidRota => first | k_is | rfl | decide +kernel)
    (case su_Undefined_InvalidRota => first | k_is | rfl | decide +kernel)
    (case su_NothingToUndo_InvalidRota => first | k_is | rfl | decide +kernel)
    (case ic_InvalidDislikes => first | k_is | rfl | decide +kernel)
    (case su_InvalidNumber_InvalidDislikes => first | k_is | rfl | decide +kernel)
    (case su_InvalidTable_InvalidDislikes => first | k_is | rfl | decide +kernel)
    (case su_InvalidRow_InvalidDislikes => first | k_is | rfl | decide +kernel)
    (case su_InvalidRules_InvalidDislikes => first | k_is | rfl | decide +kernel)
    (case su_InvalidMachines_InvalidDislikes => first | k_is | rfl | decide +kernel)
    (case su_InvalidWants_InvalidDislikes => first | k_is | rfl | decide +kernel)
    (case su_InvalidRota_InvalidDislikes => first | k_is | rfl | decide +kernel)
    (case su_InvalidDislikes_InvalidDislikes => first | k_is | rfl | decide +kernel)
    (case su_InvalidLoads_InvalidDislikes => first | k_is | rfl | decide +kernel)
    (case su_InvalidFixed_InvalidDislikes => first | k_is | rfl | decide +kernel)
    (case su_InvalidSkills_InvalidDislikes => first | k_is | rfl | decide +kernel)
    (case su_InvalidPosts_InvalidDislikes => first | k_is | rfl | decide +kernel)
    (case su_InvalidJobs_InvalidDislikes => first | k_is | rfl | decide +kernel)
    (case su_InvalidPart_InvalidDislikes => first | k_is | rfl | decide +kernel)
    (case su_InvalidQuestion_InvalidDislikes => first | k_is | rfl | decide +kernel)
    (case su_InvalidClaim_InvalidDislikes => first | k_is | rfl | decide +kernel)
    (case su_TooLarge_InvalidDislikes => first | k_is | rfl | decide +kernel)
    (case su_Undefined_InvalidDislikes => first | k_is | rfl | decide +kernel)
    (case su_NothingToUndo_InvalidDislikes => first | k_is | rfl | decide +kernel)
    (case ic_InvalidLoads => first | k_is | rfl | decide +kernel)
    (case su_InvalidNumber_InvalidLoads => first | k_is | rfl | decide +kernel)
    (case su_InvalidTable_InvalidLoads => first | k_is | rfl | decide +kernel)
    (case su_InvalidRow_InvalidLoads => first | k_is | rfl | decide +kernel)
    (case su_InvalidRules_InvalidLoads => first | k_is | rfl | decide +kernel)
    (case su_InvalidMachines_InvalidLoads => first | k_is | rfl | decide +kernel)
    (case su_InvalidWants_InvalidLoads => first | k_is | rfl | decide +kernel)
    (case su_InvalidRota_InvalidLoads => first | k_is | rfl | decide +kernel)
    (case su_InvalidDislikes_InvalidLoads => first | k_is | rfl | decide +kernel)
    (case su_InvalidLoads_InvalidLoads => first | k_is | rfl | decide +kernel)
    (case su_InvalidFixed_InvalidLoads => first | k_is | rfl | decide +kernel)
    (case su_InvalidSkills_InvalidLoads => first | k_is | rfl | decide +kernel)
    (case su_InvalidPosts_InvalidLoads => first | k_is | rfl | decide +kernel)
    (case su_InvalidJobs_InvalidLoads => first | k_is | rfl | decide +kernel)
    (case su_InvalidPart_InvalidLoads => first | k_is | rfl | decide +kernel)
    (case su_InvalidQuestion_InvalidLoads => first | k_is | rfl | decide +kernel)
    (case su_InvalidClaim_InvalidLoads => first | k_is | rfl | decide +kernel)
    (case su_TooLarge_InvalidLoads => first | k_is | rfl | decide +kernel)
    (case su_Undefined_InvalidLoads => first | k_is | rfl | decide +kernel)
    (case su_NothingToUndo_InvalidLoads => first | k_is | rfl | decide +kernel)
    (case ic_InvalidFixed => first | k_is | rfl | decide +kernel)
    (case su_InvalidNumber_InvalidFixed => first | k_is | rfl | decide +kernel)
    (case su_InvalidTable_InvalidFixed => first | k_is | rfl | decide +kernel)
    (case su_InvalidRow_InvalidFixed => first | k_is | rfl | decide +kernel)
    (case su_InvalidRules_InvalidFixed => first | k_is | rfl | decide +kernel)
    (case su_InvalidMachines_InvalidFixed => first | k_is | rfl | decide +kernel)
    (case su_InvalidWants_InvalidFixed => first | k_is | rfl | decide +kernel)
    (case su_InvalidRota_InvalidFixed => first | k_is | rfl | decide +kernel)
    (case su_InvalidDislikes_InvalidFixed => first | k_is | rfl | decide +kernel)
    (case su_InvalidLoads_InvalidFixed => first | k_is | rfl | decide +kernel)
    (case su_InvalidFixed_InvalidFixed => first | k_is | rfl | decide +kernel)
    (case su_InvalidSkills_InvalidFixed => first | k_is | rfl | decide +kernel)
    (case su_InvalidPosts_InvalidFixed => first | k_is | rfl | decide +kernel)
    (case su_InvalidJobs_InvalidFixed => first | k_is | rfl | decide +kernel)
    (case su_InvalidPart_InvalidFixed => first | k_is | rfl | decide +kernel)
    (case su_InvalidQuestion_InvalidFixed => first | k_is | rfl | decide +kernel)
    (case su_InvalidClaim_InvalidFixed => first | k_is | rfl | decide +kernel)
    (case su_TooLarge_InvalidFixed => first | k_is | rfl | decide +kernel)
    (case su_Undefined_InvalidFixed => first | k_is | rfl | decide +kernel)
    (case su_NothingToUndo_InvalidFixed => first | k_is | rfl | decide +kernel)
    (case ic_InvalidSkills => first | k_is | rfl | decide +kernel)
    (case su_InvalidNumber_InvalidSkills => first | k_is | rfl | decide +kernel)
    (case su_InvalidTable_InvalidSkills => first | k_is | rfl | decide +kernel)
    (case su_InvalidRow_InvalidSkills => first | k_is | rfl | decide +kernel)
    (case su_InvalidRules_InvalidSkills => first | k_is | rfl | decide +kernel)
    (case su_InvalidMachines_InvalidSkills => first | k_is | rfl | decide +kernel)
    (case su_InvalidWants_InvalidSkills => first | k_is | rfl | decide +kernel)
    (case su_InvalidRota_InvalidSkills => first | k_is | rfl | decide +kernel)
    (case su_InvalidDislikes_InvalidSkills => first | k_is | rfl | decide +kernel)
    (case su_InvalidLoads_InvalidSkills => first | k_is | rfl | decide +kernel)
    (case su_InvalidFixed_InvalidSkills => first | k_is | rfl | decide +kernel)
    (case su_InvalidSkills_InvalidSkills => first | k_is | rfl | decide +kernel)
    (case su_InvalidPosts_InvalidSkills => first | k_is | rfl | decide +kernel)
    (case su_InvalidJobs_InvalidSkills => first | k_is | rfl | decide +kernel)
    (case su_InvalidPart_InvalidSkills => first | k_is | rfl | decide +kernel)
    (case su_InvalidQuestion_InvalidSkills => first | k_is | rfl | decide +kernel)
    (case su_InvalidClaim_InvalidSkills => first | k_is | rfl | decide +kernel)
    (case su_TooLarge_InvalidSkills => first | k_is | rfl | decide +kernel)
    (case su_Undefined_InvalidSkills => first | k_is | rfl | decide +kernel)
    (case su_NothingToUndo_InvalidSkills => first | k_is | rfl | decide +kernel)
    (case ic_InvalidPosts => first | k_is | rfl | decide +kernel)
    (case su_InvalidNumber_InvalidPosts => first | k_is | rfl | decide +kernel)
    (case su_InvalidTable_InvalidPosts => first | k_is | rfl | decide +kernel)
    (case su_InvalidRow_InvalidPosts => first | k_is | rfl | decide +kernel)
    (case su_InvalidRules_InvalidPosts => first | k_is | rfl | decide +kernel)
    (case su_InvalidMachines_InvalidPosts => first | k_is | rfl | decide +kernel)
    (case su_InvalidWants_InvalidPosts => first | k_is | rfl | decide +kernel)
    (case su_InvalidRota_InvalidPosts => first | k_is | rfl | decide +kernel)
    (case su_InvalidDislikes_InvalidPosts => first | k_is | rfl | decide +kernel)
    (case su_InvalidLoads_InvalidPosts => first | k_is | rfl | decide +kernel)
    (case su_InvalidFixed_InvalidPosts => first | k_is | rfl | decide +kernel)
    (case su_InvalidSkills_InvalidPosts => first | k_is | rfl | decide +kernel)
    (case su_InvalidPosts_InvalidPosts => first | k_is | rfl | decide +kernel)
    (case su_InvalidJobs_InvalidPosts => first | k_is | rfl | decide +kernel)
    (case su_InvalidPart_InvalidPosts => first | k_is | rfl | decide +kernel)
    (case su_InvalidQuestion_InvalidPosts => first | k_is | rfl | decide +kernel)
    (case su_InvalidClaim_InvalidPosts => first | k_is | rfl | decide +kernel)
    (case su_TooLarge_InvalidPosts => first | k_is | rfl | decide +kernel)
    (case su_Undefined_InvalidPosts => first | k_is | rfl | decide +kernel)
    (case su_NothingToUndo_InvalidPosts => first | k_is | rfl | decide +kernel)
    (case ic_InvalidJobs => first | k_is | rfl | decide +kernel)
    (case su_InvalidNumber_InvalidJobs => first | k_is | rfl | decide +kernel)
    (case su_InvalidTable_InvalidJobs => first | k_is | rfl | decide +kernel)
    (case su_InvalidRow_InvalidJobs => first | k_is | rfl | decide +kernel)
    (case su_InvalidRules_InvalidJobs => first | k_is | rfl | decide +kernel)
    (case su_InvalidMachines_InvalidJobs => first | k_is | rfl | decide +kernel)
    (case su_InvalidWants_InvalidJobs => first | k_is | rfl | decide +kernel)
    (case su_InvalidRota_InvalidJobs => first | k_is | rfl | decide +kernel)
    (case su_InvalidDislikes_InvalidJobs => first | k_is | rfl | decide +kernel)
    (case su_InvalidLoads_InvalidJobs => first | k_is | rfl | decide +kernel)
    (case su_InvalidFixed_InvalidJobs => first | k_is | rfl | decide +kernel)
    (case su_InvalidSkills_InvalidJobs => first | k_is | rfl | decide +kernel)
    (case su_InvalidPosts_InvalidJobs => first | k_is | rfl | decide +kernel)
    (case su_InvalidJobs_InvalidJobs => first | k_is | rfl | decide +kernel)
    (case su_InvalidPart_InvalidJobs => first | k_is | rfl | decide +kernel)
    (case su_InvalidQuestion_InvalidJobs => first | k_is | rfl | decide +kernel)
    (case su_InvalidClaim_InvalidJobs => first | k_is | rfl | decide +kernel)
    (case su_TooLarge_InvalidJobs => first | k_is | rfl | decide +kernel)
    (case su_Undefined_InvalidJobs => first | k_is | rfl | decide +kernel)
    (case su_NothingToUndo_InvalidJobs => first | k_is | rfl | decide +kernel)
    (case ic_InvalidPart => first | k_is | rfl | decide +kernel)
    (case su_InvalidNumber_InvalidPart => first | k_is | rfl | decide +kernel)
    (case su_InvalidTable_InvalidPart => first | k_is | rfl | decide +kernel)
    (case su_InvalidRow_InvalidPart => first | k_is | rfl | decide +kernel)
    (case su_InvalidRules_InvalidPart => first | k_is | rfl | decide +kernel)
    (case su_InvalidMachines_InvalidPart => first | k_is | rfl | decide +kernel)
    (case su_InvalidWants_InvalidPart => first | k_is | rfl | decide +kernel)
    (case su_InvalidRota_InvalidPart => first | k_is | rfl | decide +kernel)
    (case su_InvalidDislikes_InvalidPart => first | k_is | rfl | decide +kernel)
    (case su_InvalidLoads_InvalidPart => first | k_is | rfl | decide +kernel)
    (case su_InvalidFixed_InvalidPart => first | k_is | rfl | decide +kernel)
    (case su_InvalidSkills_InvalidPart => first | k_is | rfl | decide +kernel)
    (case su_InvalidPosts_InvalidPart => first | k_is | rfl | decide +kernel)
    (case su_InvalidJobs_InvalidPart => first | k_is | rfl | decide +kernel)
    (case su_InvalidPart_InvalidPart => first | k_is | rfl | decide +kernel)
    (case su_InvalidQuestion_InvalidPart => first | k_is | rfl | decide +kernel)
    (case su_InvalidClaim_InvalidPart => first | k_is | rfl | decide +kernel)
    (case su_TooLarge_InvalidPart => first | k_is | rfl | decide +kernel)
    (case su_Undefined_InvalidPart => first | k_is | rfl | decide +kernel)
    (case su_NothingToUndo_InvalidPart => first | k_is | rfl | decide +kernel)
    (case ic_InvalidQuestion => first | k_is | rfl | decide +kernel)
    (case su_InvalidNumber_InvalidQuestion => first | k_is | rfl | decide +kernel)
    (case su_InvalidTable_InvalidQuestion => first | k_is | rfl | decide +kernel)
    (case su_InvalidRow_InvalidQuestion => first | k_is | rfl | decide +kernel)
    (case su_InvalidRules_InvalidQuestion => first | k_is | rfl | decide +kernel)
    (case su_InvalidMachines_InvalidQuestion => first | k_is | rfl | decide +kernel)
    (case su_InvalidWants_InvalidQuestion => first | k_is | rfl | decide +kernel)
    (case su_InvalidRota_InvalidQuestion => first | k_is | rfl | decide +kernel)
    (case su_InvalidDislikes_InvalidQuestion => first | k_is | rfl | decide +kernel)
    (case su_InvalidLoads_InvalidQuestion => first | k_is | rfl | decide +kernel)
    (case su_InvalidFixed_InvalidQuestion => first | k_is | rfl | decide +kernel)
    (case su_InvalidSkills_InvalidQuestion => first | k_is | rfl | decide +kernel)
    (case su_InvalidPosts_InvalidQuestion => first | k_is | rfl | decide +kernel)
    (case su_InvalidJobs_InvalidQuestion => first | k_is | rfl | decide +kernel)
    (case su_InvalidPart_InvalidQuestion => first | k_is | rfl | decide +kernel)
    (case su_InvalidQuestion_InvalidQuestion => first | k_is | rfl | decide +kernel)
    (case su_InvalidClaim_InvalidQuestion => first | k_is | rfl | decide +kernel)
    (case su_TooLarge_InvalidQuestion => first | k_is | rfl | decide +kernel)
    (case su_Undefined_InvalidQuestion => first | k_is | rfl | decide +kernel)
    (case su_NothingToUndo_InvalidQuestion => first | k_is | rfl | decide +kernel)
    (case ic_InvalidClaim => first | k_is | rfl | decide +kernel)
    (case su_InvalidNumber_InvalidClaim => first | k_is | rfl | decide +kernel)
    (case su_InvalidTable_InvalidClaim => first | k_is | rfl | decide +kernel)
    (case su_InvalidRow_InvalidClaim => first | k_is | rfl | decide +kernel)
    (case su_InvalidRules_InvalidClaim => first | k_is | rfl | decide +kernel)
    (case su_InvalidMachines_InvalidClaim => first | k_is | rfl | decide +kernel)
    (case su_InvalidWants_InvalidClaim => first | k_is | rfl | decide +kernel)
    (case su_InvalidRota_InvalidClaim => first | k_is | rfl | decide +kernel)
    (case su_InvalidDislikes_InvalidClaim => first | k_is | rfl | decide +kernel)
    (case su_InvalidLoads_InvalidClaim => first | k_is | rfl | decide +kernel)
    (case su_InvalidFixed_InvalidClaim => first | k_is | rfl | decide +kernel)
    (case su_InvalidSkills_InvalidClaim => first | k_is | rfl | decide +kernel)
    (case su_InvalidPosts_InvalidClaim => first | k_is | rfl | decide +kernel)
    (case su_InvalidJobs_InvalidClaim => first | k_is | rfl | decide +kernel)
    (case su_InvalidPart_InvalidClaim => first | k_is | rfl | decide +kernel)
    (case su_InvalidQuestion_InvalidClaim => first | k_is | rfl | decide +kernel)
    (case su_InvalidClaim_InvalidClaim => first | k_is | rfl | decide +kernel)
    (case su_TooLarge_InvalidClaim => first | k_is | rfl | decide +kernel)
    (case su_Undefined_InvalidClaim => first | k_is | rfl | decide +kernel)
    (case su_NothingToUndo_InvalidClaim => first | k_is | rfl | decide +kernel)
    (case ic_TooLarge => first | k_is | rfl | decide +kernel)
    (case su_InvalidNumber_TooLarge => first | k_is | rfl | decide +kernel)
    (case su_InvalidTable_TooLarge => first | k_is | rfl | decide +kernel)
    (case su_InvalidRow_TooLarge => first | k_is | rfl | decide +kernel)
    (case su_InvalidRules_TooLarge => first | k_is | rfl | decide +kernel)
    (case su_InvalidMachines_TooLarge => first | k_is | rfl | decide +kernel)
    (case su_InvalidWants_TooLarge => first | k_is | rfl | decide +kernel)
    (case su_InvalidRota_TooLarge => first | k_is | rfl | decide +kernel)
    (case su_InvalidDislikes_TooLarge => first | k_is | rfl | decide +kernel)
    (case su_InvalidLoads_TooLarge => first | k_is | rfl | decide +kernel)
    (case su_InvalidFixed_TooLarge => first | k_is | rfl | decide +kernel)
    (case su_InvalidSkills_TooLarge => first | k_is | rfl | decide +kernel)
    (case su_InvalidPosts_TooLarge => first | k_is | rfl | decide +kernel)
    (case su_InvalidJobs_TooLarge => first | k_is | rfl | decide +kernel)
    (case su_InvalidPart_TooLarge => first | k_is | rfl | decide +kernel)
    (case su_InvalidQuestion_TooLarge => first | k_is | rfl | decide +kernel)
    (case su_InvalidClaim_TooLarge => first | k_is | rfl | decide +kernel)
    (case su_TooLarge_TooLarge => first | k_is | rfl | decide +kernel)
    (case su_Undefined_TooLarge => first | k_is | rfl | decide +kernel)
    (case su_NothingToUndo_TooLarge => first | k_is | rfl | decide +kernel)
    (case ic_Undefined => first | k_is | rfl | decide +kernel)
    (case su_InvalidNumber_Undefined => first | k_is | rfl | decide +kernel)
    (case su_InvalidTable_Undefined => first | k_is | rfl | decide +kernel)
    (case su_InvalidRow_Undefined => first | k_is | rfl | decide +kernel)
    (case su_InvalidRules_Undefined => first | k_is | rfl | decide +kernel)
    (case su_InvalidMachines_Undefined => first | k_is | rfl | decide +kernel)
    (case su_InvalidWants_Undefined => first | k_is | rfl | decide +kernel)
    (case su_InvalidRota_Undefined => first | k_is | rfl | decide +kernel)
    (case su_InvalidDislikes_Undefined => first | k_is | rfl | decide +kernel)
    (case su_InvalidLoads_Undefined => first | k_is | rfl | decide +kernel)
    (case su_InvalidFixed_Undefined => first | k_is | rfl | decide +kernel)
    (case su_InvalidSkills_Undefined => first | k_is | rfl | decide +kernel)
    (case su_InvalidPosts_Undefined => first | k_is | rfl | decide +kernel)
    (case su_InvalidJobs_Undefined => first | k_is | rfl | decide +kernel)
    (case su_InvalidPart_Undefined => first | k_is | rfl | decide +kernel)
    (case su_InvalidQuestion_Undefined => first | k_is | rfl | decide +kernel)
    (case su_InvalidClaim_Undefined => first | k_is | rfl | decide +kernel)
    (case su_TooLarge_Undefined => first | k_is | rfl | decide +kernel)
    (case su_Undefined_Undefined => first | k_is | rfl | decide +kernel)
    (case su_NothingToUndo_Undefined => first | k_is | rfl | decide +kernel)
    (case ic_NothingToUndo => first | k_is | rfl | decide +kernel)
    (case su_InvalidNumber_NothingToUndo => first | k_is | rfl | decide +kernel)
    (case su_InvalidTable_NothingToUndo => first | k_is | rfl | decide +kernel)
    (case su_InvalidRow_NothingToUndo => first | k_is | rfl | decide +kernel)
    (case su_InvalidRules_NothingToUndo => first | k_is | rfl | decide +kernel)
    (case su_InvalidMachines_NothingToUndo => first | k_is | rfl | decide +kernel)
    (case su_InvalidWants_NothingToUndo => first | k_is | rfl | decide +kernel)
    (case su_InvalidRota_NothingToUndo => first | k_is | rfl | decide +kernel)
    (case su_InvalidDislikes_NothingToUndo => first | k_is | rfl | decide +kernel)
    (case su_InvalidLoads_NothingToUndo => first | k_is | rfl | decide +kernel)
    (case su_InvalidFixed_NothingToUndo => first | k_is | rfl | decide +kernel)
    (case su_InvalidSkills_NothingToUndo => first | k_is | rfl | decide +kernel)
    (case su_InvalidPosts_NothingToUndo => first | k_is | rfl | decide +kernel)
    (case su_InvalidJobs_NothingToUndo => first | k_is | rfl | decide +kernel)
    (case su_InvalidPart_NothingToUndo => first | k_is | rfl | decide +kernel)
    (case su_InvalidQuestion_NothingToUndo => first | k_is | rfl | decide +kernel)
    (case su_InvalidClaim_NothingToUndo => first | k_is | rfl | decide +kernel)
    (case su_TooLarge_NothingToUndo => first | k_is | rfl | decide +kernel)
    (case su_Undefined_NothingToUndo => first | k_is | rfl | decide +kernel)
    (case su_NothingToUndo_NothingToUndo => first | k_is | rfl | decide +kernel)
    (case ic_DutyError => first | k_is | rfl | decide +kernel)
    (case tC_DutyError => first | k_is | rfl | decide +kernel)
    (case su_DutyError_DutyError => first | k_is | rfl | decide +kernel)
    (case su_InvalidNumber_DutyError => first | k_is | rfl | decide +kernel)
    (case su_InvalidTable_DutyError => first | k_is | rfl | decide +kernel)
    (case su_InvalidRow_DutyError => first | k_is | rfl | decide +kernel)
    (case su_InvalidRules_DutyError => first | k_is | rfl | decide +kernel)
    (case su_InvalidMachines_DutyError => first | k_is | rfl | decide +kernel)
    (case su_InvalidWants_DutyError => first | k_is | rfl | decide +kernel)
    (case su_InvalidRota_DutyError => first | k_is | rfl | decide +kernel)
    (case su_InvalidDislikes_DutyError => first | k_is | rfl | decide +kernel)
    (case su_InvalidLoads_DutyError => first | k_is | rfl | decide +kernel)
    (case su_InvalidFixed_DutyError => first | k_is | rfl | decide +kernel)
    (case su_InvalidSkills_DutyError => first | k_is | rfl | decide +kernel)
    (case su_InvalidPosts_DutyError => first | k_is | rfl | decide +kernel)
    (case su_InvalidJobs_DutyError => first | k_is | rfl | decide +kernel)
    (case su_InvalidPart_DutyError => first | k_is | rfl | decide +kernel)
    (case su_InvalidQuestion_DutyError => first | k_is | rfl | decide +kernel)
    (case su_InvalidClaim_DutyError => first | k_is | rfl | decide +kernel)
    (case su_TooLarge_DutyError => first | k_is | rfl | decide +kernel)
    (case su_Undefined_DutyError => first | k_is | rfl | decide +kernel)
    (case su_NothingToUndo_DutyError => first | k_is | rfl | decide +kernel)
