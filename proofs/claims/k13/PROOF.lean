import PyProof.Rows.All
import Wide.All
import OpenK.AllK
import Wide.FinOn
import HandS.ForMost
import HandS.Wide
import HandS.Flow
import HandS.Defaults
import HandS.MakeKwOnly
import HandS.Codes
import HandS.More
import HandS.NoneIn
import HandS.Style
import HandS.IsInst
import KE.Datum
import HandS.Walk
import HandS.TupLen
import HandS.Zip
import PySem.Challenge.RW_farasked_k13_calls_that_tell_nothing
set_option Elab.async false
set_option linter.all false
set_option maxRecDepth 100000
/-! what stands in the heap, as one list of cells -/
namespace G
open PySem PySem.Spec PyProof.Rows L2

/-- a cell: 0 read alone, 1 of the caller's and to be changed, 2 new here -/
abbrev Cell := Nat × Addr × HO
structure Sep (H0 : Hp) (ft : List Addr) (H : Hp) (l : List Cell) : Prop where
  nd : (l.map (·.2.1)).Nodup
  rd : ∀ c ∈ l, H c.2.1 = some c.2.2
  fr : ∀ b o, H0 b = some o → b ∉ ft → H b = some o
  wr : ∀ c ∈ l, c.1 = 1 → c.2.1 ∈ ft
  nw : ∀ c ∈ l, c.1 = 2 → H0 c.2.1 = none
  ex : ∀ b ∈ ft, ∃ o, H b = some o
section
variable {H0 H H' : Hp} {ft : List Addr} {l : List Cell} {t : Nat} {a p q b : Addr} {o o' u : HO}
theorem Sep.nil (ex : ∀ b ∈ ft, ∃ o, H b = some o) : Sep H ft H [] := ⟨List.nodup_nil, fun _ h => (nomatch h), fun _ _ h _ => h, fun _ h => (nomatch h), fun _ h => (nomatch h), ex⟩
theorem Sep.mem (S : Sep H0 ft H l) (i : Nat) {c : Cell} (h : l[i]? = some c) : c ∈ l := List.mem_of_getElem? h
theorem Sep.get (S : Sep H0 ft H l) (i : Nat) (h : l[i]? = some (t, a, o)) : H a = some o := S.rd _ (List.mem_of_getElem? h)
theorem Sep.new_none (S : Sep H0 ft H l) (i : Nat) (h : l[i]? = some (2, a, o)) : H0 a = none := S.nw _ (List.mem_of_getElem? h) rfl
theorem Sep.ne {t t' : Nat} (S : Sep H0 ft H l) (i j : Nat) (h : l[i]? = some (t, a, o)) (h' : l[j]? = some (t', b, u)) (d : i ≠ j) : a ≠ b := by
  intro e
  have h1 : (l.map (·.2.1))[i]? = some a := by rw [List.getElem?_map, h]; rfl
  have h2 : (l.map (·.2.1))[j]? = some a := by rw [List.getElem?_map, h', e]; rfl
  obtain ⟨x1, e1⟩ := List.getElem?_eq_some_iff.mp h1
  obtain ⟨x2, e2⟩ := List.getElem?_eq_some_iff.mp h2
  exact d ((List.getElem_inj S.nd).mp (e1.trans e2.symm))
theorem Sep.add (S : Sep H0 ft H l) (t : Nat) (ha : H a = some o) (hn : ∀ c ∈ l, c.2.1 ≠ a) (h1 : t = 1 → a ∈ ft) (h2 : t = 2 → H0 a = none) : Sep H0 ft H ((t, a, o) :: l) :=
  ⟨List.nodup_cons.mpr ⟨fun m => by obtain ⟨c, hc, e⟩ := List.mem_map.mp m; exact hn c hc e, S.nd⟩,
   fun c hc => (List.mem_cons.mp hc).elim (fun e => by rw [e]; exact ha) (S.rd c), S.fr,
   fun c hc => (List.mem_cons.mp hc).elim (fun e => by rw [e]; exact h1) (S.wr c),
   fun c hc => (List.mem_cons.mp hc).elim (fun e => by rw [e]; exact h2) (S.nw c), S.ex⟩
/-- what is not there was not there at the entry, where all that may be changed is there -/
theorem Sep.none0 (S : Sep H0 ft H l) (hp : H p = none) : H0 p = none := by
  cases e : H0 p with
  | none => rfl
  | some o =>
    by_cases m : p ∈ ft
    · obtain ⟨u, hu⟩ := S.ex p m
      rw [hp] at hu; cases hu
    · have := S.fr p o e m
      rw [hp] at this; cases this
theorem Sep.new (S : Sep H0 ft H l) (hp : H p = none) (o : HO) : Sep H0 ft (upd H p o) ((2, p, o) :: l) := by
  have h0 := S.none0 hp
  have hne : ∀ c ∈ l, c.2.1 ≠ p := fun c hc e => by
    have := S.rd c hc
    rw [e, hp] at this; cases this
  have S' : Sep H0 ft (upd H p o) l := ⟨S.nd, fun c hc => by rw [upd_ne (hne c hc)]; exact S.rd c hc, fun b u e m => by rw [upd_ne (ne_of_none e h0)]; exact S.fr b u e m, S.wr, S.nw, fun b m => by obtain ⟨u, hu⟩ := S.ex b m; exact ⟨u, by rw [upd_ne (ne_of_none hu hp)]; exact hu⟩⟩
  exact S'.add 2 upd_same hne (fun e => by cases e) fun _ => h0
theorem Sep.put (S : Sep H0 ft H l) (i : Nat) (o' : HO) (h : l[i]? = some (t, a, o)) (ht : t = 1 ∨ t = 2 := by first | exact .inl rfl | exact .inr rfl) : Sep H0 ft (upd H a o') (l.set i (t, a, o')) := by
  have hw : H0 a = none ∨ a ∈ ft := by
    rcases ht with e | e
    · exact .inr (S.wr _ (List.mem_of_getElem? h) e)
    · exact .inl (S.nw _ (List.mem_of_getElem? h) e)
  have hi : i < l.length := (List.getElem?_eq_some_iff.mp h).1
  have em : (l.set i (t, a, o')).map (·.2.1) = l.map (·.2.1) := by
    rw [List.map_set]
    have : (l.map (·.2.1))[i]? = some a := by rw [List.getElem?_map, h]; rfl
    obtain ⟨x, e⟩ := List.getElem?_eq_some_iff.mp this
    rw [← e]
    exact List.set_getElem_self x
  refine ⟨by rw [em]; exact S.nd, fun c hc => ?_, fun b u e m => ?_, fun c hc => ?_, fun c hc => ?_, fun b m => ?_⟩
  · rcases List.getElem?_of_mem hc with ⟨j, hj⟩
    by_cases e : i = j
    · subst e
      rw [List.getElem?_set_self hi] at hj
      cases hj
      exact upd_same
    · rw [List.getElem?_set_ne e] at hj
      have hne : c.2.1 ≠ a := S.ne (t := c.1) (o := c.2.2) j i hj h (Ne.symm e)
      rw [upd_ne hne]
      exact S.rd c (List.mem_of_getElem? hj)
  · have nb : b ≠ a := fun z => by
      rw [z] at e m
      rcases hw with k | k
      · rw [k] at e; cases e
      · exact m k
    rw [upd_ne nb]
    exact S.fr b u e m
  · rcases List.mem_or_eq_of_mem_set hc with hc | rfl
    · exact S.wr c hc
    · exact fun e => S.wr (t, a, o) (List.mem_of_getElem? h) e
  · rcases List.mem_or_eq_of_mem_set hc with hc | rfl
    · exact S.nw c hc
    · exact fun e => S.nw (t, a, o) (List.mem_of_getElem? h) e
  · obtain ⟨u, hu⟩ := S.ex b m
    by_cases e : b = a
    · subst e; exact ⟨_, upd_same⟩
    · exact ⟨u, by rw [upd_ne e]; exact hu⟩
/-- behind a call that changes nothing that was -/
theorem Sep.stay (S : Sep H0 ft H l) (F : ∀ b o, H b = some o → H' b = some o) : Sep H0 ft H' l :=
  ⟨S.nd, fun c hc => F _ _ (S.rd c hc), fun b o e m => F b o (S.fr b o e m), S.wr, S.nw, fun b m => let ⟨u, hu⟩ := S.ex b m; ⟨u, F b u hu⟩⟩
/-- behind a call that changes the i-th cell alone -/
theorem Sep.chg1 (S : Sep H0 ft H l) (i : Nat) (h : l[i]? = some (t, a, o)) (F : ∀ b u, H b = some u → b ≠ a → H' b = some u) (e : H' a = some o') (ht : t = 1 ∨ t = 2 := by first | exact .inl rfl | exact .inr rfl) :
    Sep H0 ft H' (l.set i (t, a, o')) := by
  have S1 := S.put i o' h ht
  refine S1.stay fun b u hb => ?_
  by_cases z : b = a
  · subst z; rw [upd_same] at hb; cases hb; exact e
  · rw [upd_ne z] at hb; exact F b u hb z
theorem Sep.chg2 {t' : Nat} {o2 o2' : HO} (S : Sep H0 ft H l) (i j : Nat) (h : l[i]? = some (t, a, o)) (h' : l[j]? = some (t', b, o2)) (d : i ≠ j) (F : ∀ c u, H c = some u → c ≠ a → c ≠ b → H' c = some u) (e : H' a = some o') (e2 : H' b = some o2')
    (ht : t = 1 ∨ t = 2 := by first | exact .inl rfl | exact .inr rfl) (ht' : t' = 1 ∨ t' = 2 := by first | exact .inl rfl | exact .inr rfl) : Sep H0 ft H' ((l.set i (t, a, o')).set j (t', b, o2')) := by
  have S1 := S.put i o' h ht
  have nab : a ≠ b := S.ne i j h h' d
  refine S1.chg1 j (by rw [List.getElem?_set_ne d]; exact h') (fun c u hc z => ?_) e2 ht'
  by_cases w : c = a
  · subst w; rw [upd_same] at hc; cases hc; exact e
  · rw [upd_ne w] at hc; exact F c u hc w z
theorem nodup_of {α : Type} (l : List α) (is : List Nat) : is.Nodup → l.Nodup → (is.filterMap (l[·]?)).Nodup := by
  intro h1 h2
  induction is with
  | nil => exact List.nodup_nil
  | cons i r ih =>
    obtain ⟨n1, n2⟩ := List.nodup_cons.mp h1
    cases e : l[i]? with
    | none => rw [List.filterMap_cons_none e]; exact ih n2
    | some x =>
      rw [List.filterMap_cons_some e]
      refine List.nodup_cons.mpr ⟨fun m => ?_, ih n2⟩
      obtain ⟨j, hj, ej⟩ := List.mem_filterMap.mp m
      obtain ⟨x1, e1⟩ := List.getElem?_eq_some_iff.mp e
      obtain ⟨x2, e2⟩ := List.getElem?_eq_some_iff.mp ej
      have := (List.getElem_inj h2).mp (e1.trans e2.symm)
      subst this
      exact n1 hj
/-- some of the cells, in another order -/
theorem Sep.sub (S : Sep H0 ft H l) (is : List Nat) (hn : is.Nodup := by decide) : Sep H0 ft H (is.filterMap (l[·]?)) := by
  have hm : ∀ c ∈ is.filterMap (l[·]?), c ∈ l := fun c hc => by
    obtain ⟨j, _, ej⟩ := List.mem_filterMap.mp hc
    exact List.mem_of_getElem? ej
  refine ⟨?_, fun c hc => S.rd c (hm c hc), S.fr, fun c hc => S.wr c (hm c hc), fun c hc => S.nw c (hm c hc), S.ex⟩
  have : (is.filterMap (l[·]?)).map (·.2.1) = is.filterMap ((l.map (·.2.1))[·]?) := by
    rw [List.map_filterMap]
    congr 1
    funext i
    rw [List.getElem?_map]
  rw [this]
  exact nodup_of _ is hn S.nd
theorem Sep.sq {K : PySem.W.Frag} {xs : List V} (S : Sep H0 ft H l) (h : SqL K H0 a xs) (ha : a ∉ ft) : SqL K H a xs := by
  rcases h with (h | ⟨o, h⟩) | h
  · exact .inl (.inl (S.fr _ _ h ha))
  · exact .inl (.inr ⟨o, S.fr _ _ h ha⟩)
  · exact .inr h
theorem Sep.sl {K : PySem.W.Frag} {xs : List V} (S : Sep H0 ft H l) (i : Nat) (h : l[i]? = some (t, a, .lst xs)) : SqL K H a xs := .of (S.get i h)
theorem Sep.st {K : PySem.W.Frag} {xs : List V} (S : Sep H0 ft H l) (i : Nat) (h : l[i]? = some (t, a, .tup xs)) : SqT K H a xs := .of (S.get i h)
theorem Sep.of0 : Sep H [] H [] := Sep.nil fun _ h => (nomatch h)
theorem Sep.of1 (h : H a = some o) : Sep H [a] H [(1, a, o)] := (Sep.nil fun b m => by rw [List.mem_singleton.mp m]; exact ⟨o, h⟩).add 1 h (fun _ z => nomatch z) (fun _ => List.mem_singleton_self a) (fun z => by cases z)
theorem Sep.of2 (h : H a = some o) (h' : H b = some u) (n : a ≠ b) : Sep H [a, b] H [(1, a, o), (1, b, u)] :=
  ((Sep.nil fun c m => (List.mem_cons.mp m).elim (fun e => by rw [e]; exact ⟨_, h⟩) fun m => by rw [List.mem_singleton.mp m]; exact ⟨_, h'⟩).add 1 h' (fun _ z => nomatch z) (fun _ => by simp) (fun z => by cases z)).add 1 h (fun c hc => by rw [List.mem_singleton.mp hc]; exact n.symm) (fun _ => by simp) (fun z => by cases z)
theorem Sep.out (S : Sep H0 ft H l) : ∀ b o, H0 b = some o → b ∉ ft → H b = some o := S.fr
theorem Sep.out1 (S : Sep H0 [a] H l) : ∀ b o, H0 b = some o → b ≠ a → H b = some o := fun b o e n => S.fr b o e (by simp [n])
theorem Sep.out2 (S : Sep H0 [a, b] H l) : ∀ c o, H0 c = some o → c ≠ a → c ≠ b → H c = some o := fun c o e n m => S.fr c o e (by simp [n, m])
end
/-! ### steps: what a reading asks, answered over the cells -/
section
variable {H0 H : Hp} {ft : List Addr} {l : List Cell} {t : Nat} {a p : Addr} {o : HO} {K : PySem.W.Frag} {σ : L2.St} {Q : VK} {v x y : V} {i j : Int}
theorem x_var {n : Nat} (h : σ[n]? = some (some v)) (q : Q v H) : tVar n σ H Q := ⟨v, h, q⟩
theorem x_ixF {xs : List V} (S : Sep H0 ft H l) (n : Nat) (h : l[n]? = some (t, p, .lst xs)) (ha : atI xs i = some v) (q : Q v H) : rIxL K (.ref p) (.int i) H Q := ⟨p, xs, i, v, rfl, rfl, S.sl n h, ha, q⟩
theorem x_ixT {xs : List V} (S : Sep H0 ft H l) (n : Nat) (h : l[n]? = some (t, p, .tup xs)) (ha : atI xs i = some v) (q : Q v H) : rIxT K (.ref p) (.int i) H Q := ⟨p, xs, i, v, rfl, rfl, S.st n h, ha, q⟩
theorem at_map {α : Type} {f : α → V} {cs : List α} {i : Int} (h0 : 0 ≤ i) (h : i < cs.length) : ∃ c, cs[i.toNat]? = some c ∧ atI (cs.map f) i = some (f c) := by
  have hl : i.toNat < cs.length := by omega
  refine ⟨cs[i.toNat], List.getElem?_eq_getElem hl, ?_⟩
  have e : ((i.toNat : Nat) : Int) = i := by omega
  have := atI_nat (xs := cs.map f) (j := i.toNat) (v := f cs[i.toNat]) (by rw [List.getElem?_map, List.getElem?_eq_getElem hl]; rfl)
  rw [e] at this
  exact this
theorem x_ixI {cs : List Int} (S : Sep H0 ft H l) (n : Nat) (h : l[n]? = some (t, p, .lst (cs.map V.int))) (h0 : 0 ≤ i) (h1 : i < cs.length) (q : ∀ c, cs[i.toNat]? = some c → Q (.int c) H) : rIxL K (.ref p) (.int i) H Q := by
  obtain ⟨c, hc, ha⟩ := at_map (f := V.int) h0 h1
  exact ⟨p, _, i, _, rfl, rfl, S.sl n h, ha, q c hc⟩
theorem x_ixS {cs : List Int} (hs : SqL K H p (cs.map V.int)) (h0 : 0 ≤ i) (h1 : i < cs.length) (q : ∀ c, cs[i.toNat]? = some c → Q (.int c) H) : rIxL K (.ref p) (.int i) H Q := by
  obtain ⟨c, hc, ha⟩ := at_map (f := V.int) h0 h1
  exact ⟨p, _, i, _, rfl, rfl, hs, ha, q c hc⟩
theorem x_setL {xs : List V} {k : Nat} {Qd : Hp → Prop} (S : Sep H0 ft H l) (n : Nat) (h : l[n]? = some (t, p, .lst xs)) (hj : ixN xs.length i = some k) (q : ∀ H', Sep H0 ft H' (l.set n (t, p, .lst (xs.set k v))) → Qd H')
    (ht : t = 1 ∨ t = 2 := by first | exact .inl rfl | exact .inr rfl) : rSetL (.ref p) (.int i) v H Qd := ⟨p, xs, i, k, rfl, rfl, S.get n h, hj, q _ (S.put n _ h ht)⟩
theorem ixN_in {n : Nat} (h0 : 0 ≤ i) (h : i < n) : ixN n i = some i.toNat := by unfold ixN; rw [if_pos h0, if_pos h]
theorem x_setI {cs : List Int} {Qd : Hp → Prop} (S : Sep H0 ft H l) (n : Nat) (h : l[n]? = some (t, p, .lst (cs.map V.int))) (h0 : 0 ≤ i) (h1 : i < cs.length) (q : ∀ H', Sep H0 ft H' (l.set n (t, p, .lst ((cs.set i.toNat j).map V.int))) → Qd H')
    (ht : t = 1 ∨ t = 2 := by first | exact .inl rfl | exact .inr rfl) : rSetL (.ref p) (.int i) (.int j) H Qd := by
  refine ⟨p, _, i, i.toNat, rfl, rfl, S.get n h, ixN_in h0 (by rw [List.length_map]; exact h1), ?_⟩
  have := S.put n (.lst ((cs.map V.int).set i.toNat (.int j))) h ht
  rw [← List.map_set] at this ⊢
  exact q _ this
def rLen (K : PySem.W.Frag) : List V → Hp → VK → Prop := fun xs H Q => ∃ p ys, xs = [.ref p] ∧ (SqL K H p ys ∨ SqT K H p ys) ∧ Q (.int ys.length) H
theorem cl_len {X : Cx} : CallR X (.builtin "len") (rLen X.K) := call_len_seq
theorem x_len {xs : List V} (S : Sep H0 ft H l) (n : Nat) (h : l[n]? = some (t, p, .lst xs)) (q : Q (.int xs.length) H) : rLen K [.ref p] H Q := ⟨p, xs, rfl, .inl (S.sl n h), q⟩
theorem x_lenI {cs : List Int} (S : Sep H0 ft H l) (n : Nat) (h : l[n]? = some (t, p, .lst (cs.map V.int))) (q : Q (.int cs.length) H) : rLen K [.ref p] H Q := ⟨p, _, rfl, .inl (S.sl n h), by rw [List.length_map]; exact q⟩
theorem x_lenT {xs : List V} (S : Sep H0 ft H l) (n : Nat) (h : l[n]? = some (t, p, .tup xs)) (q : Q (.int xs.length) H) : rLen K [.ref p] H Q := ⟨p, xs, rfl, .inr (S.st n h), q⟩
theorem x_lenS {cs : List Int} (hs : SqL K H p (cs.map V.int)) (q : Q (.int cs.length) H) : rLen K [.ref p] H Q := ⟨p, _, rfl, .inl hs, by rw [List.length_map]; exact q⟩
theorem x_I {C : Int → Int → Prop} {g : Int → Int → V} (c : C i j) (q : Q (g i j) H) : rI C g (.int i) (.int j) H Q := ⟨i, j, rfl, rfl, c, q⟩
theorem x_I0 {g : Int → Int → V} (q : Q (g i j) H) : rI0 g (.int i) (.int j) H Q := ⟨i, j, rfl, rfl, q⟩
theorem x_ip {f : Int → Int → Int} (q : Q (.int (f i j)) H) : ipI f (.int i) (.int j) H Q := ⟨i, j, rfl, rfl, q⟩
theorem x_U {g : Int → V} (q : Q (g i) H) : rU g (.int i) H Q := ⟨i, rfl, q⟩
theorem x_eq (q : Q (.bl (decide (x = y))) H) (s : scal x y = true := by rfl) : rEq x y H Q := ⟨s, q⟩
theorem x_ne (q : Q (.bl (!decide (x = y))) H) (s : scal x y = true := by rfl) : rNe x y H Q := ⟨s, q⟩
theorem x_bl {b : Bool} {R : Bool → Hp → Prop} (q : R b H) : ∃ k, V.bl b = .bl k ∧ R k H := ⟨b, rfl, q⟩
/-- a new object -/
theorem x_new (S : Sep H0 ft H l) (o : HO) {R : Addr → Hp → Prop} (q : ∀ p H', Sep H0 ft H' ((2, p, o) :: l) → R p H') : ∀ p, H p = none → R p (upd H p o) := fun p hp => q p _ (S.new hp o)
end
/-! ### more steps -/
section
variable {H0 H : Hp} {ft : List Addr} {l : List Cell} {t : Nat} {a p : Addr} {o : HO} {K : PySem.W.Frag} {σ : L2.St} {Q : VK} {v x y : V} {i j : Int}
theorem div_ok (h : 0 < j) (h2 : j < 2 ^ 200) : CDivW i j := wide_div (b := 200) h (by omega) (by decide) (by decide)
theorem x_if {tc : TT} {t u : TS} {D : Ends} (h : tc σ H fun b H1 => if b = true then t D σ H1 else u D σ H1) : tIfS tc t u D σ H := h
def ForJ (J : It) (g : TG) (tb : TS) (D : Ends) (σ : L2.St) (H : Hp) : Prop := ∃ W : Nat → Nat → L2.St → Hp → Prop, (∃ m, W 0 m σ H) ∧ ∀ i m σ H, W i m σ H →
  (J.stop i H ∧ D.nx σ H) ∨ (J.go i H ∧ ∃ N : L2.St → Hp → Prop, (∀ σ' H', N σ' H' → ∃ m', m' < m ∧ W (i + 1) m' σ' H') ∧ ∀ x H', J.yld i H x H' → g x σ H' fun σ2 H2 => tb { D with nx := N, ct := N, bk := D.nx } σ2 H2)
theorem x_for {wi : TI} {g : TG} {tb : TS} {D : Ends} (h : wi σ H fun J H1 => ForJ J g tb D σ H1) : tFor wi g tb D σ H := h
theorem forR {lo : Int} {n : Nat} {g : TG} {tb : TS} {D : Ends} (Pv : Nat → L2.St → Hp → Prop) (h0 : Pv 0 σ H)
    (hs : ∀ i σ H, i < n → Pv i σ H → g (.int (lo + i)) σ H fun σ2 H2 => tb { D with nx := Pv (i + 1), ct := Pv (i + 1), bk := D.nx } σ2 H2) (hd : ∀ σ H, Pv n σ H → D.nx σ H) : ForJ (Itr lo n) g tb D σ H := for_range Pv h0 hs hd
theorem forL {xs : List V} {g : TG} {tb : TS} {D : Ends} (Pv : Nat → L2.St → Hp → Prop) (h0 : Pv 0 σ H) (hl : ∀ i σ H, i ≤ xs.length → Pv i σ H → SqL K H a xs)
    (hs : ∀ i x σ H, xs[i]? = some x → Pv i σ H → g x σ H fun σ2 H2 => tb { D with nx := Pv (i + 1), ct := Pv (i + 1), bk := D.nx } σ2 H2) (hd : ∀ σ H, Pv xs.length σ H → D.nx σ H) : ForJ (Itl K a) g tb D σ H := for_list Pv h0 hl hs hd
def LcJ (J : It) (g : TG) (tt : TT) (te : TE) (vs : List Nat) (σ : L2.St) (H1 : Hp) (Q : VK) : Prop := ∀ D, H1 D = none → ∃ W : Nat → Nat → Hp → Prop, (∃ m, W 0 m (upd H1 D (.lst []))) ∧ ∀ i m H, W i m H →
  (J.stop i H ∧ Q (.ref D) H) ∨ (J.go i H ∧ ∃ Nx : Hp → Prop, (∀ H', Nx H' → ∃ m', m' < m ∧ W (i + 1) m' H') ∧ ∀ x H', J.yld i H x H' → g x (wipe σ vs) H' fun σ2 H2 => wipe σ2 vs = wipe σ vs ∧ tt σ2 H2 fun b H3 =>
    if b = true then te σ2 H3 fun y H4 => ∃ acc, H4 D = some (.lst acc) ∧ acc.length < sizeLine ∧ Nx (upd H4 D (.lst (acc ++ [y]))) else Nx H3)
theorem x_lc {wi : TI} {g : TG} {tt : TT} {te : TE} {vs : List Nat} (h : wi σ H fun J H1 => LcJ J g tt te vs σ H1 Q) : tLc wi g tt te vs σ H Q := h
/-- what a turn hands on is put behind the new list -/
def rLcA (D : Addr) (y : V) (H : Hp) (R : Hp → Prop) : Prop := ∃ acc, H D = some (.lst acc) ∧ acc.length < sizeLine ∧ R (upd H D (.lst (acc ++ [y])))
theorem lcR {lo : Int} {n : Nat} {g : TG} {tt : TT} {te : TE} {vs : List Nat} (S : Sep H0 ft H l) (h : ∀ D H1, Sep H0 ft H1 ((2, D, .lst []) :: l) → ∃ Pv : Nat → Hp → Prop, Pv 0 H1 ∧
    (∀ i H, i < n → Pv i H → g (.int (lo + i)) (wipe σ vs) H fun σ2 H2 => wipe σ2 vs = wipe σ vs ∧ tt σ2 H2 fun b H3 => if b = true then te σ2 H3 fun y H4 => rLcA D y H4 (Pv (i + 1)) else Pv (i + 1) H3) ∧
    ∀ H, Pv n H → Q (.ref D) H) : LcJ (Itr lo n) g tt te vs σ H Q := fun D hD =>
  let ⟨Pv, h0, hs, hd⟩ := h D _ (S.new hD (.lst []))
  lc_range (H1 := H) Pv h0 hs hd
theorem lcL {xs : List V} {g : TG} {tt : TT} {te : TE} {vs : List Nat} (S : Sep H0 ft H l) (h : ∀ D H1, Sep H0 ft H1 ((2, D, .lst []) :: l) → ∃ Pv : Nat → Hp → Prop, Pv 0 H1 ∧ (∀ i H, i ≤ xs.length → Pv i H → SqL K H a xs) ∧
    (∀ i x H, xs[i]? = some x → Pv i H → g x (wipe σ vs) H fun σ2 H2 => wipe σ2 vs = wipe σ vs ∧ tt σ2 H2 fun b H3 => if b = true then te σ2 H3 fun y H4 => rLcA D y H4 (Pv (i + 1)) else Pv (i + 1) H3) ∧
    ∀ H, Pv xs.length H → Q (.ref D) H) : LcJ (Itl K a) g tt te vs σ H Q := fun D hD =>
  let ⟨Pv, h0, hl, hs, hd⟩ := h D _ (S.new hD (.lst []))
  lc_list (H1 := H) Pv h0 hl hs hd
theorem x_lcapp {xs : List V} {R : Hp → Prop} (S : Sep H0 ft H l) (n : Nat) (h : l[n]? = some (t, p, .lst xs)) (hl : xs.length < 100000) (q : ∀ H', Sep H0 ft H' (l.set n (t, p, .lst (xs ++ [v]))) → R H') (ht : t = 1 ∨ t = 2 := by first | exact .inl rfl | exact .inr rfl) :
    rLcA p v H R := ⟨xs, S.get n h, Nat.lt_of_lt_of_le hl (by decide), q _ (S.put n _ h ht)⟩
theorem x_lcappI {cs : List Int} {R : Hp → Prop} (S : Sep H0 ft H l) (n : Nat) (h : l[n]? = some (t, p, .lst (cs.map V.int))) (hl : cs.length < 100000) (q : ∀ H', Sep H0 ft H' (l.set n (t, p, .lst ((cs ++ [i]).map V.int))) → R H') (ht : t = 1 ∨ t = 2 := by first | exact .inl rfl | exact .inr rfl) :
    rLcA p (.int i) H R := x_lcapp S n h (by rw [List.length_map]; exact hl) (fun H' S' => q H' (by rw [List.map_append]; exact S')) ht
theorem elem_of {α : Type} {f : α → V} {xs : List α} {n : Nat} {y : V} (h : (xs.map f)[n]? = some y) : ∃ z, xs[n]? = some z ∧ y = f z := by
  rw [List.getElem?_map] at h
  cases e : xs[n]? with
  | none => rw [e] at h; cases h
  | some z => rw [e] at h; exact ⟨z, rfl, (Option.some.inj h).symm⟩
theorem filter_snoc_pos {α : Type} {p : α → Bool} {xs : List α} {z : α} (h : p z = true) : xs.filter p ++ [z] = (xs ++ [z]).filter p := by rw [List.filter_append, List.filter_cons_of_pos h, List.filter_nil]
theorem filter_snoc_neg {α : Type} {p : α → Bool} {xs : List α} {z : α} (h : p z = false) : xs.filter p = (xs ++ [z]).filter p := by rw [List.filter_append, List.filter_cons_of_neg (by rw [h]; exact Bool.false_ne_true), List.filter_nil, List.append_nil]
theorem take_snoc {α : Type} {xs : List α} {n : Nat} {z : α} (h : xs[n]? = some z) : xs.take (n + 1) = xs.take n ++ [z] := by rw [List.take_add_one, h]; rfl
theorem lt_of_get {α : Type} {xs : List α} {n : Nat} {z : α} (h : xs[n]? = some z) : n < xs.length := (List.getElem?_eq_some_iff.mp h).1
theorem x_ifE {tt : TT} {ta tb : TE} (h : tt σ H fun c H1 => if c = true then ta σ H1 Q else tb σ H1 Q) : tIf tt ta tb σ H Q := h
/-- what follows a value is shown once -/
theorem x_ifx {tt : TT} {ta tb : TE} (R : V → Hp → Prop) (k : ∀ v H', R v H' → Q v H') (h : (∀ v H', R v H' → Q v H') → tIf tt ta tb σ H Q) : tIf tt ta tb σ H Q := h k
/-- what follows an if is shown once -/
theorem x_ifS {tc : TT} {t u : TS} {D : Ends} (R : L2.St → Hp → Prop) (k : ∀ σ H', R σ H' → D.nx σ H') (h : (∀ σ H', R σ H' → D.nx σ H') → tIfS tc t u D σ H) : tIfS tc t u D σ H := h k
theorem x_andV {ta tb : TE} (h : ta σ H fun x H1 => ∃ c, x = .bl c ∧ if c = true then tb σ H1 Q else Q (.bl false) H1) : tAndV ta tb σ H Q := h
theorem x_orV {ta tb : TE} (h : ta σ H fun x H1 => ∃ c, x = .bl c ∧ if c = true then Q (.bl true) H1 else tb σ H1 Q) : tOrV ta tb σ H Q := h
theorem x_and {t u : TT} {R : Bool → Hp → Prop} (h : t σ H fun c H1 => if c = true then u σ H1 R else R false H1) : tAnd t u σ H R := h
theorem x_or {t u : TT} {R : Bool → Hp → Prop} (h : t σ H fun c H1 => if c = true then R true H1 else u σ H1 R) : tOr t u σ H R := h
theorem x_turn {G : L2.St → Hp → Prop} {R : (L2.St → Hp → Prop) → Prop} (h : R G) : ∃ N : L2.St → Hp → Prop, (∀ σ' H', N σ' H' → G σ' H') ∧ R N := ⟨_, fun _ _ z => z, h⟩
theorem x_while {tc : TT} {tb : TS} {D : Ends} (W : Nat → L2.St → Hp → Prop) (m : Nat) (w : W m σ H) (h : ∀ m σ H, W m σ H → tc σ H fun b H1 => if b = true then ∃ N : L2.St → Hp → Prop, (∀ σ' H', N σ' H' → ∃ m', m' < m ∧ W m' σ' H') ∧ tb { D with nx := N, ct := N, bk := D.nx } σ H1 else D.nx σ H1) :
    tWhile tc tb D σ H := ⟨W, ⟨m, w⟩, h⟩
theorem x_part {R : Option Int → Hp → Prop} (q : R (some i) H) : ∃ j, V.int i = .int j ∧ R (some j) H := ⟨i, rfl, q⟩
theorem x_slL {xs : List V} {lo hi : Option Int} (S : Sep H0 ft H l) (n : Nat) (h : l[n]? = some (t, p, .lst xs)) (q : ∀ r H', Sep H0 ft H' ((2, r, .lst (cutV xs lo hi)) :: l) → Q (.ref r) H') : rSlL K (.ref p) lo hi H Q := ⟨p, xs, rfl, S.sl n h, x_new S _ q⟩
/-- a slice of a list of ints -/
def cutI {α : Type} (xs : List α) (lo hi : Option Int) : List α := (xs.drop (HT.sIx xs.length 0 lo)).take (HT.sIx xs.length xs.length hi - HT.sIx xs.length 0 lo)
theorem cutV_map {α : Type} (f : α → V) (xs : List α) (lo hi : Option Int) : cutV (xs.map f) lo hi = (cutI xs lo hi).map f := by
  unfold cutV cutI
  rw [List.length_map, ← List.map_drop, ← List.map_take]
theorem x_slI {cs : List Int} {lo hi : Option Int} (S : Sep H0 ft H l) (n : Nat) (h : l[n]? = some (t, p, .lst (cs.map V.int))) (q : ∀ r H', Sep H0 ft H' ((2, r, .lst ((cutI cs lo hi).map V.int)) :: l) → Q (.ref r) H') : rSlL K (.ref p) lo hi H Q :=
  ⟨p, _, rfl, S.sl n h, by rw [cutV_map]; exact x_new S _ q⟩
theorem cutI_nat {α : Type} (xs : List α) {i j : Int} (h0 : 0 ≤ i) (h1 : i ≤ j) (h2 : j ≤ xs.length) : cutI xs (some i) (some j) = (xs.drop i.toNat).take (j.toNat - i.toNat) := by
  unfold cutI
  have e1 : i = (i.toNat : Int) := by omega
  have e2 : j = (j.toNat : Int) := by omega
  rw [e1, e2, HT.sIx_nat, HT.sIx_nat, Nat.min_eq_left (by omega), Nat.min_eq_left (by omega), Int.toNat_natCast, Int.toNat_natCast]
def rMax2 : List V → Hp → VK → Prop := fun xs H Q => ∃ i j, xs = [.int i, .int j] ∧ Q (.int (max i j)) H
def rMin2 : List V → Hp → VK → Prop := fun xs H Q => ∃ i j, xs = [.int i, .int j] ∧ Q (.int (min i j)) H
theorem cl_max {X : Cx} (hc : X.calm = true) : CallR X (.builtin "max") rMax2 := fun pins s σ H xs us Q I r ⟨i, j, e, q⟩ => call_max2 hc pins s σ H xs us Q I r ⟨i, j, e, by
  have : (if j > i then j else i) = max i j := by split <;> omega
  rw [this]; exact q⟩
theorem cl_min {X : Cx} (hc : X.calm = true) : CallR X (.builtin "min") rMin2 := fun pins s σ H xs us Q I r ⟨i, j, e, q⟩ => call_min2 hc pins s σ H xs us Q I r ⟨i, j, e, by
  have : (if j < i then j else i) = min i j := by split <;> omega
  rw [this]; exact q⟩
theorem x_max (q : Q (.int (max i j)) H) : rMax2 [.int i, .int j] H Q := ⟨i, j, rfl, q⟩
theorem x_min (q : Q (.int (min i j)) H) : rMin2 [.int i, .int j] H Q := ⟨i, j, rfl, q⟩
/-- what the rules ask, under names -/
def rIL (K : PySem.W.Frag) : V → Hp → (It → Hp → Prop) → Prop := fun x H R => ∃ a, x = .ref a ∧ (∃ xs, SqL K H a xs) ∧ R (Itl K a) H
def rIT (K : PySem.W.Frag) : V → Hp → (It → Hp → Prop) → Prop := fun x H R => ∃ a, x = .ref a ∧ (∃ xs, SqT K H a xs) ∧ R (Itt K a) H
def iList1 (K : PySem.W.Frag) (tl : TE) : TI := fun σ H R => tl σ H fun x H1 => rIL K x H1 R
def iTup1 (K : PySem.W.Frag) (tl : TE) : TI := fun σ H R => tl σ H fun x H1 => rIT K x H1 R
theorem pi_list1 {X : Cx} {tg e : Expr} {tl : TE} (h : PE X e tl) : PI X tg e (iList1 X.K tl) := pi_list h
theorem pi_tup1 {X : Cx} {tg e : Expr} {tl : TE} (h : PE X e tl) : PI X tg e (iTup1 X.K tl) := pi_tup h

def rLst : List V → Hp → VK → Prop := fun xs H Q => xs.length ≤ sizeLine ∧ ∀ p, H p = none → Q (.ref p) (upd H p (.lst xs))
def rTup : List V → Hp → VK → Prop := fun xs H Q => xs.length ≤ sizeLine ∧ ∀ p, H p = none → Q (.ref p) (upd H p (.tup xs))
theorem pe_lst1 {X : Cx} {es : List Expr} {t : TA} {pos : Pos} (h : PA X es t) : PE X (.List es pos) (tCB rLst t) := pe_lst h
theorem pe_tup1 {X : Cx} {es : List Expr} {t : TA} {pos : Pos} {x1} (h : PA X es t) : PE X (.Tuple es x1 pos) (tCB rTup t) := pe_tup h
def rFld (K : PySem.W.Frag) (f : Str) : V → Hp → VK → Prop := fun x H Q => ∃ a C dx fs v, x = .ref a ∧ H a = some (.ins C dx fs) ∧ Cls K C ∧ NoAttr K C f ∧ fs.lookup f = some v ∧ Q v H
def rFldA (K : PySem.W.Frag) (f : Str) : V → Hp → (Addr → Addr → V → Prop) → Prop := fun x H R => ∃ a C dx fs v, x = .ref a ∧ H a = some (.ins C dx fs) ∧ Cls K C ∧ NoAttr K C f ∧ fs.lookup f = some v ∧ R a C v
def rPutA (f : Str) (a C : Addr) : V → Hp → (Hp → Prop) → Prop := fun z H R => ∃ dx fs, H a = some (.ins C dx fs) ∧ fs.length < 1000 ∧ R (upd H a (.ins C dx (putF f z fs)))
def rSFld (K : PySem.W.Frag) (f : Str) : V → V → Hp → (Hp → Prop) → Prop := fun x y H R => ∃ a C dx fs, x = .ref a ∧ H a = some (.ins C dx fs) ∧ Cls K C ∧ NoAttr K C f ∧ fs.length < 1000 ∧ R (upd H a (.ins C dx (putF f y fs)))
def sFld1 (K : PySem.W.Frag) (ta tv : TE) (f : Str) : TS := fun D σ H => tv σ H fun y H1 => ta σ H1 fun x H2 => rSFld K f x y H2 fun H3 => D.nx σ H3
def sFldAug1 (K : PySem.W.Frag) (ta tv : TE) (rd : V → V → Hp → VK → Prop) (f : Str) : TS := fun D σ H => ta σ H fun x H1 => rFldA K f x H1 fun a C v => tv σ H1 fun y H2 => rd v y H2 fun z H3 => rPutA f a C z H3 fun H4 => D.nx σ H4
def rMe (C : Addr) (m : Str) : V → Hp → Prop → Prop := fun x H R => ∃ a dx fs, x = .ref a ∧ H a = some (.ins C dx fs) ∧ fs.lookup m = none ∧ R
def tMeth1 (C : Addr) (m : Str) (sp : Sp) (dvs : List V) (E : XK) (ta : TE) (t : TA) : TE := fun σ H Q => ta σ H fun x H1 => rMe C m x H1 (t σ H1 fun vs H2 => sp (x :: (vs ++ dvs)) H2 Q E)
def rDIn : V → V → Hp → VK → Prop := fun y x H Q => ∃ a o, x = .ref a ∧ DGet H a y o ∧ Q (.bl o.isSome) H
def rDNi : V → V → Hp → VK → Prop := fun y x H Q => ∃ a o, x = .ref a ∧ DGet H a y o ∧ Q (.bl (!o.isSome)) H
def rDGet : V → V → Hp → VK → Prop := fun x y H Q => ∃ a v, x = .ref a ∧ DGet H a y (some v) ∧ Q v H
def rDPut : V → V → V → Hp → (Hp → Prop) → Prop := fun x y v H R => ∃ a H4, x = .ref a ∧ DPut H a y v H4 ∧ R H4
def sDPut1 (td ty tv : TE) : TS := fun D σ H => tv σ H fun v H1 => td σ H1 fun x H2 => ty σ H2 fun y H3 => rDPut x y v H3 fun H4 => D.nx σ H4
def rDPop (a : Addr) : V → Hp → VK → Prop := fun y H Q => ∃ kvs k v, H a = some (.dK kvs) ∧ y = kV k ∧ valV kvs k = some v ∧ Q v (upd H a (.dK (dropK kvs k)))
def rIsD : V → Hp → (Addr → Prop) → Prop := fun x H R => ∃ a, x = .ref a ∧ IsD H a ∧ R a
def tDPop (td ty : TE) : TE := fun σ H Q => td σ H fun x H1 => rIsD x H1 fun a => ty σ H1 fun y H2 => rDPop a y H2 Q
section
variable {X : Cx} {CX : CXT} {k j : Nat} {C : Addr} {f m : Str} {sp : Sp} {E : XK} {p pos pos' apos tpos cpos : Pos} {e i value : Expr} {es : List Expr} {td ty tv : TE} {ta : TE} {t : TA}
theorem pe_fld1 (he : PE X e ta) (hb : attributeBase e f X.env (eval e X.env) = eval e X.env) : PE X (.Attribute e f pos) (tUn (rFld X.K f) ta) := pe_fld he hb
theorem ps_fld1 (ha : PE X e ta) (hv : PE X value tv) (hs : swapsWith value (some (.Attribute e f pos')) pos.line X.env = pure false) : PS X (.Assign [.Attribute e f pos'] value pos) (sFld1 X.K ta tv f) := ps_fld ha hv hs
theorem ps_fldaug1 {op : Operator} {rd : V → V → Hp → VK → Prop} (ha : PE X e ta) (hv : PE X value tv) (hop : InOp X op rd) : PS X (.AugAssign (.Attribute e f tpos) op value pos) (sFldAug1 X.K ta tv rd f) := ps_fldaug ha hv hop
theorem pc_din1 (hu : X.A.units + 1 < cLine) (hi : PE X i ty) (ho : PE X e td) : PC X .In i e (tOp rDIn ty td) := pc_din hu hi ho
theorem pc_dni1 (hu : X.A.units + 1 < cLine) (hi : PE X i ty) (ho : PE X e td) : PC X .NotIn i e (tOp rDNi ty td) := pc_dnotin hu hi ho
theorem pe_dget1v (hu : X.A.units + 1 < cLine) (ho : PE X e td) (hi : PE X i ty) (hs : NoSl i) : PE X (.Subscript e i pos) (tOp rDGet td ty) := pe_dget hu ho hi hs
theorem ps_dput1 (hu : X.A.units + 1 < cLine) (ho : PE X e td) (hi : PE X i ty) (hv : PE X value tv) (hs : swapsWith value (some (.Subscript e i pos')) pos.line X.env = pure false) : PS X (.Assign [.Subscript e i pos'] value pos) (sDPut1 td ty tv) := ps_dput hu ho hi hv hs
theorem pe_dpop (ho : PE X e td) (he : PE X i ty) (m : M1 X e "pop" apos i cpos) : PE X (.Call (.Attribute e "pop" apos) [i] [] cpos) (tDPop td ty) := pe_dpop1 ho he m
end
theorem x_lst {xs : List V} (S : Sep H0 ft H l) (hl : xs.length ≤ 100000) (q : ∀ p H', Sep H0 ft H' ((2, p, .lst xs) :: l) → Q (.ref p) H') : rLst xs H Q := ⟨Nat.le_trans hl (by decide), x_new S _ q⟩
theorem x_tup {xs : List V} (S : Sep H0 ft H l) (hl : xs.length ≤ 100000) (q : ∀ p H', Sep H0 ft H' ((2, p, .tup xs) :: l) → Q (.ref p) H') : rTup xs H Q := ⟨Nat.le_trans hl (by decide), x_new S _ q⟩
theorem x_dnew (S : Sep H0 ft H l) (q : ∀ p H', Sep H0 ft H' ((2, p, .dK []) :: l) → Q (.ref p) H') : tDNewK σ H Q := x_new S _ q
def rListOf (K : PySem.W.Frag) : List V → Hp → VK → Prop := fun xs H Q => ∃ p ys, xs = [.ref p] ∧ (SqL K H p ys ∨ SqT K H p ys) ∧ ∀ l, H l = none → Q (.ref l) (upd H l (.lst ys))
theorem cl_list {X : Cx} : CallR X (.type "list") (rListOf X.K) := call_list_of
theorem x_listS {xs : List V} (S : Sep H0 ft H l) (hs : SqL K H p xs) (q : ∀ r H', Sep H0 ft H' ((2, r, .lst xs) :: l) → Q (.ref r) H') : rListOf K [.ref p] H Q := ⟨p, xs, rfl, .inl hs, x_new S _ q⟩
/-- isinstance -/
theorem x_isi {A B : String} {b : Bool} (ty : TyX K H x (.type A)) (h : kitB A B = some b) (q : Q (.bl b) H) : rIsi K [x, .ty B] H Q := ⟨x, .ty B, .type A, .type B, b, rfl, .ty B, ty, kit_ty h, q⟩
theorem cl_isiK {X : Cx} (K : PySem.W.Frag) (h : X.K = K := by rfl) : CallR X (.builtin "isinstance") (rIsi K) := by subst h; exact call_isi
theorem ty_int : TyX K H (.int i) (.type "int") := .base (.int i)
theorem ty_bl {b : Bool} : TyX K H (.bl b) (.type "bool") := .base (.bl b)
theorem ty_str {z : Str} : TyX K H (.str z) (.type "str") := .base (.str z)
theorem ty_non : TyX K H .non (.type "NoneType") := .base .non
theorem ty_tup {xs : List V} (S : Sep H0 ft H l) (n : Nat) (h : l[n]? = some (t, p, .tup xs)) : TyX K H (.ref p) (.type "tuple") := .base (.tup (S.get n h))
theorem ty_lst {xs : List V} (S : Sep H0 ft H l) (n : Nat) (h : l[n]? = some (t, p, .lst xs)) : TyX K H (.ref p) (.type "list") := .base (.lst (S.get n h))
theorem ty_dK {kvs : List (Key × V)} (S : Sep H0 ft H l) (n : Nat) (h : l[n]? = some (t, p, .dK kvs)) : TyX K H (.ref p) (.type "dict") := .base (.dK (S.get n h))
theorem ki_int_int : kitB "int" "int" = some true := by decide +kernel
theorem ki_int_bool : kitB "int" "bool" = some false := by decide +kernel
theorem ki_int_str : kitB "int" "str" = some false := by decide +kernel
theorem ki_int_tuple : kitB "int" "tuple" = some false := by decide +kernel
theorem ki_bool_bool : kitB "bool" "bool" = some true := by decide +kernel
theorem ki_bool_int : kitB "bool" "int" = some true := by decide +kernel
theorem ki_tuple_tuple : kitB "tuple" "tuple" = some true := by decide +kernel
theorem ki_list_list : kitB "list" "list" = some true := by decide +kernel
theorem ki_dict_dict : kitB "dict" "dict" = some true := by decide +kernel
theorem ki_str_str : kitB "str" "str" = some true := by decide +kernel
theorem ki_str_int : kitB "str" "int" = some false := by decide +kernel
theorem ki_NoneType_int : kitB "NoneType" "int" = some false := by decide +kernel
/-! the rules over the written part K, said -/
section
variable {X : Cx} {e : Expr} {tl : TE} {tg : Expr} {f : Str} {pos : Pos}
theorem cl_lenK (K : PySem.W.Frag) (h : X.K = K := by rfl) : CallR X (.builtin "len") (rLen K) := by subst h; exact cl_len
theorem cl_listK (K : PySem.W.Frag) (h : X.K = K := by rfl) : CallR X (.type "list") (rListOf K) := by subst h; exact cl_list
theorem ix_listK (K : PySem.W.Frag) (h : X.K = K := by rfl) : IxR X (rIxL K) := by subst h; exact ix_list
theorem ix_tupK (K : PySem.W.Frag) (h : X.K = K := by rfl) : IxR X (rIxT K) := by subst h; exact ix_tup
theorem sl_listK (K : PySem.W.Frag) (h : X.K = K := by rfl) : SlR X (rSlL K) := by subst h; exact sl_list
theorem sl_tupK (K : PySem.W.Frag) (h : X.K = K := by rfl) : SlR X (rSlT K) := by subst h; exact sl_tup
theorem op_eqDK (K : PySem.W.Frag) (hu : X.A.units + 64 < cLine) (h : X.K = K := by rfl) : OpR X (compareOp .Eq) (rEqD K) := by subst h; exact op_eqD hu
theorem op_neDK (K : PySem.W.Frag) (hu : X.A.units + 64 < cLine) (h : X.K = K := by rfl) : OpR X (compareOp .NotEq) (rNeD K) := by subst h; exact op_neD hu
theorem pe_fldK (K : PySem.W.Frag) (he : PE X e tl) (hb : attributeBase e f X.env (eval e X.env) = eval e X.env := by rfl) (h : X.K = K := by rfl) : PE X (.Attribute e f pos) (tUn (rFld K f) tl) := by subst h; exact pe_fld1 he hb
theorem pi_listK (K : PySem.W.Frag) (he : PE X e tl) (h : X.K = K := by rfl) : PI X tg e (iList1 K tl) := by subst h; exact pi_list1 he
theorem pi_tupK (K : PySem.W.Frag) (he : PE X e tl) (h : X.K = K := by rfl) : PI X tg e (iTup1 K tl) := by subst h; exact pi_tup1 he
end
theorem x_ilist {xs : List V} {R : It → Hp → Prop} (S : Sep H0 ft H l) (n : Nat) (h : l[n]? = some (t, p, .lst xs)) (q : R (Itl K p) H) : rIL K (.ref p) H R := ⟨p, rfl, ⟨xs, S.sl n h⟩, q⟩
theorem x_itup {xs : List V} {R : It → Hp → Prop} (S : Sep H0 ft H l) (n : Nat) (h : l[n]? = some (t, p, .tup xs)) (q : R (Itt K p) H) : rIT K (.ref p) H R := ⟨p, rfl, ⟨xs, S.st n h⟩, q⟩
/-- dicts -/
theorem x_din {kvs : List (Key × V)} {k : Key} (S : Sep H0 ft H l) (n : Nat) (h : l[n]? = some (t, p, .dK kvs)) (q : Q (.bl (valV kvs k).isSome) H) : rDIn (kV k) (.ref p) H Q := ⟨p, _, rfl, DGet.k (S.get n h), q⟩
theorem x_dni {kvs : List (Key × V)} {k : Key} (S : Sep H0 ft H l) (n : Nat) (h : l[n]? = some (t, p, .dK kvs)) (q : Q (.bl (!(valV kvs k).isSome)) H) : rDNi (kV k) (.ref p) H Q := ⟨p, _, rfl, DGet.k (S.get n h), q⟩
theorem x_dget {kvs : List (Key × V)} {k : Key} (S : Sep H0 ft H l) (n : Nat) (h : l[n]? = some (t, p, .dK kvs)) (hv : valV kvs k = some v) (q : Q v H) : rDGet (.ref p) (kV k) H Q := ⟨p, v, rfl, by rw [← hv]; exact DGet.k (S.get n h), q⟩
theorem x_dput {kvs : List (Key × V)} {k : Key} {R : Hp → Prop} (S : Sep H0 ft H l) (n : Nat) (h : l[n]? = some (t, p, .dK kvs)) (hl : kvs.length < 100000) (q : ∀ H', Sep H0 ft H' (l.set n (t, p, .dK (putK kvs k v))) → R H')
    (ht : t = 1 ∨ t = 2 := by first | exact .inl rfl | exact .inr rfl) : rDPut (.ref p) (kV k) v H R := ⟨p, _, rfl, DPut.k (S.get n h) (Nat.lt_of_lt_of_le hl (by decide)), q _ (S.put n _ h ht)⟩
theorem x_isD {kvs : List (Key × V)} {R : Addr → Prop} (S : Sep H0 ft H l) (n : Nat) (h : l[n]? = some (t, p, .dK kvs)) (q : R p) : rIsD (.ref p) H R := ⟨p, rfl, .inl ⟨_, .inl (S.get n h)⟩, q⟩
theorem x_dpop {kvs : List (Key × V)} {k : Key} (S : Sep H0 ft H l) (n : Nat) (h : l[n]? = some (t, p, .dK kvs)) (hv : valV kvs k = some v) (q : ∀ H', Sep H0 ft H' (l.set n (t, p, .dK (dropK kvs k))) → Q v H')
    (ht : t = 1 ∨ t = 2 := by first | exact .inl rfl | exact .inr rfl) : rDPop p (kV k) H Q := ⟨kvs, k, v, S.get n h, rfl, hv, q _ (S.put n _ h ht)⟩
/-- fields -/
theorem x_fld {C dx : Addr} {fs : List (Str × V)} {f : Str} (S : Sep H0 ft H l) (n : Nat) (h : l[n]? = some (t, p, .ins C dx fs)) (c : Cls K C) (na : NoAttr K C f) (hf : fs.lookup f = some v) (q : Q v H) : rFld K f (.ref p) H Q := ⟨p, C, dx, fs, v, rfl, S.get n h, c, na, hf, q⟩
theorem x_fldA {C dx : Addr} {fs : List (Str × V)} {f : Str} {R : Addr → Addr → V → Prop} (S : Sep H0 ft H l) (n : Nat) (h : l[n]? = some (t, p, .ins C dx fs)) (c : Cls K C) (na : NoAttr K C f) (hf : fs.lookup f = some v) (q : R p C v) : rFldA K f (.ref p) H R := ⟨p, C, dx, fs, v, rfl, S.get n h, c, na, hf, q⟩
theorem x_sfld {C dx : Addr} {fs fs' : List (Str × V)} {f : Str} {R : Hp → Prop} (S : Sep H0 ft H l) (n : Nat) (h : l[n]? = some (t, p, .ins C dx fs)) (c : Cls K C) (na : NoAttr K C f) (e : putF f v fs = fs') (hl : fs.length < 1000) (q : ∀ H', Sep H0 ft H' (l.set n (t, p, .ins C dx fs')) → R H')
    (ht : t = 1 ∨ t = 2 := by first | exact .inl rfl | exact .inr rfl) : rSFld K f (.ref p) v H R :=
  ⟨p, C, dx, fs, rfl, S.get n h, c, na, hl, by rw [e]; exact q _ (S.put n _ h ht)⟩
theorem x_augf {C dx : Addr} {fs fs' : List (Str × V)} {f : Str} {R : Hp → Prop} (S : Sep H0 ft H l) (n : Nat) (h : l[n]? = some (t, p, .ins C dx fs)) (e : putF f v fs = fs') (hl : fs.length < 1000) (q : ∀ H', Sep H0 ft H' (l.set n (t, p, .ins C dx fs')) → R H')
    (ht : t = 1 ∨ t = 2 := by first | exact .inl rfl | exact .inr rfl) : rPutA f p C v H R :=
  ⟨dx, fs, S.get n h, hl, by rw [e]; exact q _ (S.put n _ h ht)⟩
theorem x_meth {C dx : Addr} {fs : List (Str × V)} {m : Str} {R : Prop} (S : Sep H0 ft H l) (n : Nat) (h : l[n]? = some (t, p, .ins C dx fs)) (hl : fs.lookup m = none) (q : R) : rMe C m (.ref p) H R := ⟨p, dx, fs, rfl, S.get n h, hl, q⟩
theorem x_add (q : Q (.int (i + j)) H) : rAdd (.int i) (.int j) H Q := ⟨i, j, rfl, rfl, q⟩
theorem x_sub (q : Q (.int (i - j)) H) : rSub (.int i) (.int j) H Q := ⟨i, j, rfl, rfl, q⟩
/-- lists' methods -/
theorem x_app {xs : List V} (S : Sep H0 ft H l) (n : Nat) (h : l[n]? = some (t, p, .lst xs)) (hl : xs.length < 100000) (q : ∀ H', Sep H0 ft H' (l.set n (t, p, .lst (xs ++ [v]))) → Q .non H') (ht : t = 1 ∨ t = 2 := by first | exact .inl rfl | exact .inr rfl) :
    rAppend (.ref p) [v] H Q := ⟨p, xs, v, rfl, rfl, S.get n h, Nat.lt_of_lt_of_le hl (by decide), q _ (S.put n _ h ht)⟩
theorem x_ty {xs : List V} (S : Sep H0 ft H l) (n : Nat) (h : l[n]? = some (t, p, .lst xs)) : tyV K "list" (.ref p) H := .inl ⟨rfl, xs, S.sl n h⟩
def rInsert : V → List V → Hp → VK → Prop := fun x vs H Q => ∃ (l : Addr) (xs : List V) (i : Int) (y : V), x = .ref l ∧ vs = [.int i, y] ∧ H l = some (.lst xs) ∧ xs.length < sizeLine ∧ 0 ≤ i ∧ i < 2 ^ 63 ∧ Q .non (upd H l (.lst (xs.take i.toNat ++ [y] ++ xs.drop i.toNat)))
theorem mt_ins {X : Cx} : MtR X "list.insert" rInsert := mt_insert
theorem x_ins {xs : List V} (S : Sep H0 ft H l) (n : Nat) (h : l[n]? = some (t, p, .lst xs)) (hl : xs.length < 100000) (h0 : 0 ≤ i) (h1 : i < 2 ^ 63) (q : ∀ H', Sep H0 ft H' (l.set n (t, p, .lst (xs.take i.toNat ++ [v] ++ xs.drop i.toNat))) → Q .non H')
    (ht : t = 1 ∨ t = 2 := by first | exact .inl rfl | exact .inr rfl) : rInsert (.ref p) [.int i, v] H Q := ⟨p, xs, i, v, rfl, rfl, S.get n h, Nat.lt_of_lt_of_le hl (by decide), h0, h1, q _ (S.put n _ h ht)⟩
/-- a list of ints with one put in -/
def insAt {α : Type} (ys : List α) (i : Int) (v : α) : List α := ys.take i.toNat ++ [v] ++ ys.drop i.toNat
theorem mem_insAt {α : Type} {ys : List α} {i : Int} {v x : α} : x ∈ insAt ys i v ↔ x = v ∨ x ∈ ys := by
  unfold insAt
  rw [List.append_assoc, List.mem_append, List.mem_append, List.mem_singleton]
  constructor
  · rintro (h | h | h)
    · exact .inr (List.mem_of_mem_take h)
    · exact .inl h
    · exact .inr (List.mem_of_mem_drop h)
  · rintro (h | h)
    · exact .inr (.inl h)
    · rw [← List.take_append_drop i.toNat ys] at h
      rcases List.mem_append.mp h with h | h
      · exact .inl h
      · exact .inr (.inr h)
theorem len_insAt {α : Type} {ys : List α} {i : Int} {v : α} : (insAt ys i v).length = ys.length + 1 := by
  unfold insAt
  rw [List.length_append, List.length_append, List.length_take, List.length_drop, List.length_singleton]
  omega
theorem insAt_map {α : Type} (f : α → V) (ys : List α) (i : Int) (v : α) : (ys.map f).take i.toNat ++ [f v] ++ (ys.map f).drop i.toNat = (insAt ys i v).map f := by
  unfold insAt
  rw [List.map_append, List.map_append, List.map_take, List.map_drop, List.map_singleton]
theorem x_insI {cs : List Int} (S : Sep H0 ft H l) (n : Nat) (h : l[n]? = some (t, p, .lst (cs.map V.int))) (hl : cs.length < 100000) (h0 : 0 ≤ i) (h1 : i < 2 ^ 63) (q : ∀ H', Sep H0 ft H' (l.set n (t, p, .lst ((insAt cs i j).map V.int))) → Q .non H')
    (ht : t = 1 ∨ t = 2 := by first | exact .inl rfl | exact .inr rfl) : rInsert (.ref p) [.int i, .int j] H Q := by
  refine x_ins S n h (by rw [List.length_map]; exact hl) h0 h1 (fun H' S' => q H' ?_) ht
  rw [insAt_map] at S'
  exact S'
/-- data compared -/
theorem dp_ints {ns : List Int} : DpAll K H (ns.map V.int) (ns.map PyData.int) := by
  induction ns with
  | nil => exact .nil
  | cons n r ih => exact .cons (.int n) ih
theorem lay_ints : ∀ ns : List Int, PyData.canLayAll0 (ns.map PyData.int) = true
  | [] => rfl
  | n :: r => lay_ints r
theorem dep_ints : ∀ ns : List Int, PyData.depthAll (ns.map PyData.int) = 0
  | [] => rfl
  | n :: r => by rw [List.map_cons, PyData.depthAll, dep_ints r]; rfl
theorem sh_list (ns : List Int) : SeqAt.shaped (.list (ns.map PyData.int)) = true := by
  unfold SeqAt.shaped
  rw [show PyData.canLay0 (.list (ns.map PyData.int)) = true from lay_ints ns, PyData.depth, dep_ints]
  rfl
theorem sh_tup (ns : List Int) : SeqAt.shaped (.tuple (ns.map PyData.int)) = true := by
  unfold SeqAt.shaped
  rw [show PyData.canLay0 (.tuple (ns.map PyData.int)) = true from lay_ints ns, PyData.depth, dep_ints]
  rfl
theorem eqv_list (ns ms : List Int) : PyData.eqv (.list (ns.map PyData.int)) (.list (ms.map PyData.int)) = decide (ns = ms) := PySem.W.Datum.eqv (α := List Int) ns ms
theorem eqv_tup (ns ms : List Int) : PyData.eqv (.tuple (ns.map PyData.int)) (.tuple (ms.map PyData.int)) = decide (ns = ms) := by
  have := PySem.W.Datum.eqv (α := PySem.W.Tup Int) ⟨ns⟩ ⟨ms⟩
  rw [show PyData.eqv (.tuple (ns.map PyData.int)) (.tuple (ms.map PyData.int)) = decide ((⟨ns⟩ : PySem.W.Tup Int) = ⟨ms⟩) from this]
  exact decide_eq_decide.mpr ⟨fun e => congrArg PySem.W.Tup.items e, fun e => by rw [e]⟩
theorem x_neSq {q : Addr} {xs ys : List Int} (hx : SqL K H p (xs.map V.int)) (hy : SqL K H q (ys.map V.int)) (k : Q (.bl (!decide (xs = ys))) H) : rNeD K (.ref p) (.ref q) H Q :=
  ⟨_, _, .lst hx dp_ints, .lst hy dp_ints, sh_list xs, sh_list ys, by rw [eqv_list]; exact k⟩
theorem x_neL {q : Addr} {xs ys : List Int} {t' : Nat} (S : Sep H0 ft H l) (n m : Nat) (h : l[n]? = some (t, p, .lst (xs.map V.int))) (h' : l[m]? = some (t', q, .lst (ys.map V.int))) (k : Q (.bl (!decide (xs = ys))) H) : rNeD K (.ref p) (.ref q) H Q :=
  x_neSq (S.sl n h) (S.sl m h') k
theorem x_eqP {q : Addr} {a b c d : Int} {t' : Nat} (S : Sep H0 ft H l) (n m : Nat) (h : l[n]? = some (t, p, .tup [.int a, .int b])) (h' : l[m]? = some (t', q, .tup [.int c, .int d])) (k : Q (.bl (decide (([a, b] : List Int) = [c, d]))) H) : rEqD K (.ref p) (.ref q) H Q :=
  ⟨_, _, .tup (S.st n h) (dp_ints (ns := [a, b])), .tup (S.st m h') (dp_ints (ns := [c, d])), sh_tup _, sh_tup _, by rw [eqv_tup]; exact k⟩
theorem x_neP {q : Addr} {a b c d : Int} {t' : Nat} (S : Sep H0 ft H l) (n m : Nat) (h : l[n]? = some (t, p, .tup [.int a, .int b])) (h' : l[m]? = some (t', q, .tup [.int c, .int d])) (k : Q (.bl (!decide (([a, b] : List Int) = [c, d]))) H) : rNeD K (.ref p) (.ref q) H Q :=
  ⟨_, _, .tup (S.st n h) (dp_ints (ns := [a, b])), .tup (S.st m h') (dp_ints (ns := [c, d])), sh_tup _, sh_tup _, by rw [eqv_tup]; exact k⟩
end
/-! ### defs as facts -/
structure Cal (P : Program) (w : World) (K : PySem.W.Frag) (mg : Str → Option Value) (base : Heap) (CX : CXT) (k : Nat) (x : Str) (sp : Sp) : Prop where
  ex : ∃ (f : Addr) (fd : FuncData) (ps : List Str), FnOk P w K mg base CX k f fd ps sp ∧ mg x = some (.ref f) ∧ PySem.W.keepIn K (.ref f) = true ∧ Binds K fd ps []
structure Met (P : Program) (w : World) (K : PySem.W.Frag) (mg : Str → Option Value) (base : Heap) (CX : CXT) (k : Nat) (C : Addr) (m : Str) (sp : Sp) : Prop where
  ex : ∃ (f : Addr) (fd : FuncData) (ps : List Str), Cls K C ∧ L2.Meth K C m f ∧ FnOk P w K mg base CX k f fd ps sp ∧ Binds K fd ps []
/-- C(k = v, ..): all keyword-only, no other parameters -/
structure MakK (P : Program) (w : World) (K : PySem.W.Frag) (mg : Str → Option Value) (base : Heap) (CX : CXT) (k : Nat) (x : Str) (C : Addr) (ks : List Str) (sp : Sp) : Prop where
  ex : ∃ (f : Addr) (fd : FuncData) (ps : List Str) (g : List Value → List Value → List Value), Mk K C f ∧ FnOk P w K mg base CX k f fd ps sp ∧ mg x = some (.ref C) ∧ KBn K fd ps 1 ks g (fun vs zs => vs ++ zs)
section
variable {X : Cx} {CX : CXT} {k j : Nat} {C : Addr} {x m : Str} {sp : Sp} {E : XK} {p pos apos : Pos} {e o : Expr} {es : List Expr} {kws : List Keyword} {ks : List Str} {ta : TE} {t tk : TA}
theorem pe_c (c : Cal X.prog X.w X.K X.mg X.base CX k x sp) (hr : Room j X.A) (hk : k ≤ j) (hg : Gl X x) (hx : Passes CX X E) (ha : PA X (e :: es) t)
    (hdb : (x == ("__debug__" : Str)) = false := by decide) (he : starEach (e :: es) X.env = (false, eval e X.env) :: starEach es X.env := by rfl) (hpl : (backTo pos (starEach es X.env)).any (·.1) = false := by rfl) :
    PE X (.Call (.Name x p) (e :: es) [] pos) (tCall sp [] E t) := by
  obtain ⟨f, fd, ps, F, hm, kp, b⟩ := c.ex
  exact pe_call F (hr.mono hk) hg hm kp b .nil hx ha hdb he hpl
theorem pe_mt {pl : Sem Bool} (c : Met X.prog X.w X.K X.mg X.base CX k C m sp) (hr : Room j X.A) (hk : k ≤ j) (hx : Passes CX X E) (he : PE X o ta) (ha : PA X (e :: es) t)
    (hst : starEach (e :: es) X.env = (false, eval e X.env) :: starEach es X.env := by rfl) (hpl : (backTo pos (starEach es X.env)).any (·.1) = false := by rfl)
    (ht : eval (.Call (.Attribute o m apos) (e :: es) [] pos) X.env = (do
      let ov ← eval o X.env
      standAt apos.atName
      let (f, first) ← holding [ov] (getMethod ov m pl)
      callWith pos f first (backTo pos (starEach (e :: es) X.env)) (backToKw pos (keywordEach [] X.env))) := by rfl) :
    PE X (.Call (.Attribute o m apos) (e :: es) [] pos) (tMeth1 C m sp [] E ta t) := by
  obtain ⟨f, fd, ps, hc, hm, F, b⟩ := c.ex
  exact pe_meth (pl := pl) he hc hm F (hr.mono hk) b .nil hx ha hst hpl ht
theorem pe_mt0 {pl : Sem Bool} (c : Met X.prog X.w X.K X.mg X.base CX k C m sp) (hr : Room j X.A) (hk : k ≤ j) (hx : Passes CX X E) (he : PE X o ta)
    (ht : eval (.Call (.Attribute o m apos) [] [] pos) X.env = (do
      let ov ← eval o X.env
      standAt apos.atName
      let (f, first) ← holding [ov] (getMethod ov m pl)
      callWith pos f first (backTo pos (starEach [] X.env)) (backToKw pos (keywordEach [] X.env))) := by rfl) :
    PE X (.Call (.Attribute o m apos) [] [] pos) (tMeth1 C m sp [] E ta tNil) := by
  obtain ⟨f, fd, ps, hc, hm, F, b⟩ := c.ex
  exact pe_meth0 (pl := pl) he hc hm F (hr.mono hk) b .nil hx ht
def rMkK (C : Addr) (n m : Nat) (sp : Sp) (gV : List V → List V → List V) (E : XK) : List V → List V → Hp → VK → Prop := fun vs zs H Q => vs.length = n ∧ zs.length = m ∧ ∀ x dx, H x = none → H dx = none → dx ≠ x →
  sp (gV (.ref x :: vs) zs) (upd (upd H dx (.own x)) x (.ins C dx [])) (fun v H3 => v = .non ∧ Q (.ref x) H3) E
def tMakeK1 (C : Addr) (n m : Nat) (sp : Sp) (gV : List V → List V → List V) (E : XK) (t tk : TA) : TE := fun σ H Q => t σ H fun vs H1 => tk σ H1 fun zs H2 => rMkK C n m sp gV E vs zs H2 Q
theorem pe_mkK (c : MakK X.prog X.w X.K X.mg X.base CX k x C ks sp) (hr : Room j X.A) (hk : k + 1 ≤ j) (hg : Gl X x) (hx : Passes CX X E) (hkw : PK X kws tk)
    (hall : (backToKw pos (keywordEach kws X.env)).all (·.1.isSome) = true := by rfl) (hks : (backToKw pos (keywordEach kws X.env)).filterMap (·.1) = ks := by rfl) (hdb : (x == ("__debug__" : Str)) = false := by decide)
    (hpl : ((backTo pos (starEach [] X.env)).any (·.1) || (backToKw pos (keywordEach kws X.env)).any (·.1.isNone)) = false := by rfl) :
    PE X (.Call (.Name x p) [] kws pos) (tMakeK1 C 0 ks.length sp (fun vs zs => vs ++ zs) E tNil tk) := by
  obtain ⟨f, fd, ps, g, M, F, hm, b⟩ := c.ex
  exact pe_makeK0 M F (hr.mono hk) hg hm b hx hkw hall hks hdb hpl
end
/-! ### calls by keywords -/
/-- the keywords' values in the parameters' order -/
def kwp (is : List Nat) {α : Type} (ws : List α) : List α := is.filterMap (ws[·]?)
theorem kwp_vals : ∀ (is : List Nat) {zs : List V} {ws : List Value}, L2.Vals zs ws → L2.Vals (kwp is zs) (kwp is ws)
  | [], _, _, _ => .nil
  | i :: r, zs, ws, h => by
    unfold kwp
    cases e : zs[i]? with
    | none =>
      rw [List.filterMap_cons_none e, List.filterMap_cons_none (h.none_of e)]
      exact kwp_vals r h
    | some v =>
      obtain ⟨u, e2, rv⟩ := h.get e
      rw [List.filterMap_cons_some e, List.filterMap_cons_some e2]
      exact .cons rv (kwp_vals r h)
/-- o.m(k = v, ..) -/
structure MetK (P : Program) (w : World) (K : PySem.W.Frag) (mg : Str → Option Value) (base : Heap) (CX : CXT) (k : Nat) (C : Addr) (m : Str) (ks : List Str) (is : List Nat) (sp : Sp) : Prop where
  ex : ∃ (f : Addr) (fd : FuncData) (ps : List Str), Cls K C ∧ L2.Meth K C m f ∧ FnOk P w K mg base CX k f fd ps sp ∧ KBn K fd ps 1 ks (fun us ws => us ++ kwp is ws) (fun vs zs => vs ++ kwp is zs)
/-- f(k = v, ..) -/
structure CalK (P : Program) (w : World) (K : PySem.W.Frag) (mg : Str → Option Value) (base : Heap) (CX : CXT) (k : Nat) (x : Str) (ks : List Str) (is : List Nat) (sp : Sp) : Prop where
  ex : ∃ (f : Addr) (fd : FuncData) (ps : List Str), FnOk P w K mg base CX k f fd ps sp ∧ mg x = some (.ref f) ∧ PySem.W.keepIn K (.ref f) = true ∧ KBn K fd ps 0 ks (fun us ws => us ++ kwp is ws) (fun vs zs => vs ++ kwp is zs)
def tMethK1 (C : Addr) (m : Str) (n : Nat) (is : List Nat) (sp : Sp) (E : XK) (ta : TE) (tk : TA) : TE := fun σ H Q => ta σ H fun x H1 => rMe C m x H1 (tk σ H1 fun zs H2 => zs.length = n ∧ sp ([x] ++ kwp is zs) H2 Q E)
def tCallK1 (n : Nat) (is : List Nat) (sp : Sp) (E : XK) (tk : TA) : TE := fun σ H Q => tk σ H fun zs H2 => zs.length = n ∧ sp ([] ++ kwp is zs) H2 Q E
section
variable {X : Cx} {CX : CXT} {k j : Nat} {C : Addr} {x m : Str} {sp : Sp} {E : XK} {p pos apos : Pos} {e o : Expr} {kws : List Keyword} {ks : List Str} {is : List Nat} {ta : TE} {t tk : TA}
theorem pe_mtK {pl : Sem Bool} (c : MetK X.prog X.w X.K X.mg X.base CX k C m ks is sp) (hr : Room j X.A) (hk : k ≤ j) (hx : Passes CX X E) (he : PE X o ta) (hkw : PK X kws tk)
    (hall : (backToKw pos (keywordEach kws X.env)).all (·.1.isSome) = true := by rfl) (hks : (backToKw pos (keywordEach kws X.env)).filterMap (·.1) = ks := by rfl)
    (hpl : ((backTo pos (starEach [] X.env)).any (·.1) || (backToKw pos (keywordEach kws X.env)).any (·.1.isNone)) = false := by rfl)
    (ht : eval (.Call (.Attribute o m apos) [] kws pos) X.env = (do
      let ov ← eval o X.env
      standAt apos.atName
      let (f, first) ← holding [ov] (getMethod ov m pl)
      callWith pos f first (backTo pos (starEach [] X.env)) (backToKw pos (keywordEach kws X.env))) := by rfl) :
    PE X (.Call (.Attribute o m apos) [] kws pos) (tMethK1 C m ks.length is sp E ta tk) := by
  obtain ⟨f, fd, ps, c1, hm, F, b⟩ := c.ex
  refine ⟨fun pins s σ H Q I h => ?_⟩
  refine PySem.W.methodCall_KW (pl := pl) (thn (he.run pins s σ H _ I h) fun u s1 ⟨x, H1, I1, rx, a, dx, fs, ex, ea, l, q⟩ => ?_) ht
  subst ex
  obtain rfl : u = Value.ref a := rx
  refine getmeth_ok I1 ea c1 hm l ?_
  refine PySem.W.callWith_KW0 (first := [.ref a]) (h₀ := X.base) I.ok.mod.kin hm.kp hall (thn (hkw.run pos pins s1 σ H1 _ I1 q) fun ws s2 ⟨zs, H2, I2, rz, l2, q2⟩ => ⟨I2.kIn, ?_⟩) hpl
  rw [hks]
  exact run_fnN (us := [.ref a]) (vs := [.ref a]) F (hr.mono hk) b hx I2 (.cons rfl .nil) rz rfl l2 q2
theorem pe_ck (c : CalK X.prog X.w X.K X.mg X.base CX k x ks is sp) (hr : Room j X.A) (hk : k ≤ j) (hg : Gl X x) (hx : Passes CX X E) (hkw : PK X kws tk)
    (hall : (backToKw pos (keywordEach kws X.env)).all (·.1.isSome) = true := by rfl) (hks : (backToKw pos (keywordEach kws X.env)).filterMap (·.1) = ks := by rfl) (hdb : (x == ("__debug__" : Str)) = false := by decide)
    (hpl : ((backTo pos (starEach [] X.env)).any (·.1) || (backToKw pos (keywordEach kws X.env)).any (·.1.isNone)) = false := by rfl) :
    PE X (.Call (.Name x p) [] kws pos) (tCallK1 ks.length is sp E tk) := by
  obtain ⟨f, fd, ps, F, hm, kp, b⟩ := c.ex
  refine ⟨fun pins s σ H Q I h => ?_⟩
  refine wpAny_Call_Name_kw (ld_glob I hg hm ?_ hdb)
  refine PySem.W.callWith_KW0 (h₀ := X.base) I.ok.mod.kin kp hall (thn (hkw.run pos pins s σ H _ I h) fun ws s2 ⟨zs, H2, I2, rz, l2, q2⟩ => ⟨I2.kIn, ?_⟩) hpl
  rw [hks]
  exact run_fnN (us := []) (vs := []) F (hr.mono hk) b hx I2 .nil rz rfl l2 q2
end
/-- C(): every keyword-only parameter by its default -/
structure MakD (P : Program) (w : World) (K : PySem.W.Frag) (mg : Str → Option Value) (base : Heap) (CX : CXT) (k : Nat) (x : Str) (C : Addr) (dvs : List V) (sp : Sp) : Prop where
  ex : ∃ (f : Addr) (fd : FuncData) (ps : List Str) (ds : List Value), Mk K C f ∧ FnOk P w K mg base CX k f fd ps sp ∧ mg x = some (.ref C) ∧ Binds K fd ps ds ∧ L2.Vals dvs ds
def rMk0 (C : Addr) (sp : Sp) (dvs : List V) (E : XK) : Hp → VK → Prop := fun H Q => ∀ x dx, H x = none → H dx = none → dx ≠ x → sp (.ref x :: ([] ++ dvs)) (upd (upd H dx (.own x)) x (.ins C dx [])) (fun v H2 => v = .non ∧ Q (.ref x) H2) E
def tMk0 (C : Addr) (sp : Sp) (dvs : List V) (E : XK) : TE := fun _ H Q => rMk0 C sp dvs E H Q
theorem pe_mkD {X : Cx} {CX : CXT} {k j : Nat} {C : Addr} {x : Str} {sp : Sp} {E : XK} {p pos : Pos} {dvs : List V} (c : MakD X.prog X.w X.K X.mg X.base CX k x C dvs sp) (hr : Room j X.A) (hk : k + 1 ≤ j) (hg : Gl X x) (hx : Passes CX X E) (hdb : (x == ("__debug__" : Str)) = false := by decide) :
    PE X (.Call (.Name x p) [] [] pos) (tMk0 C sp dvs E) := by
  obtain ⟨f, fd, ps, ds, M, F, hm, b, d⟩ := c.ex
  exact pe_make0 M F (hr.mono hk) hg hm b d hx hdb
section
variable {H0 H : Hp} {ft : List Addr} {l : List Cell} {t : Nat} {a p C : Addr} {o : HO} {c : Cell}
theorem Sep.drop1 (S : Sep H0 ft H (c :: l)) : Sep H0 ft H l :=
  ⟨(List.nodup_cons.mp S.nd).2, fun d h => S.rd d (List.mem_cons_of_mem _ h), S.fr, fun d h => S.wr d (List.mem_cons_of_mem _ h), fun d h => S.nw d (List.mem_cons_of_mem _ h), S.ex⟩
theorem Sep.drop2 {d : Cell} (S : Sep H0 ft H (d :: c :: l)) : Sep H0 ft H (d :: l) := by
  obtain ⟨n1, n2⟩ := List.nodup_cons.mp S.nd
  exact ⟨List.nodup_cons.mpr ⟨fun h => n1 (List.mem_cons_of_mem _ h), (List.nodup_cons.mp n2).2⟩, fun e h => S.rd e ((List.mem_cons.mp h).elim (fun z => z ▸ List.mem_cons_self) fun h => List.mem_cons_of_mem _ (List.mem_cons_of_mem _ h)), S.fr,
    fun e h => S.wr e ((List.mem_cons.mp h).elim (fun z => z ▸ List.mem_cons_self) fun h => List.mem_cons_of_mem _ (List.mem_cons_of_mem _ h)),
    fun e h => S.nw e ((List.mem_cons.mp h).elim (fun z => z ▸ List.mem_cons_self) fun h => List.mem_cons_of_mem _ (List.mem_cons_of_mem _ h)), S.ex⟩
/-- a new instance, ahead of its __init__ -/
theorem Sep.made {x dx : Addr} (S : Sep H0 ft H l) (hx : H x = none) (hd : H dx = none) (n : dx ≠ x) : Sep H0 ft (upd (upd H dx (.own x)) x (.ins C dx [])) ((2, x, .ins C dx []) :: l) :=
  ((S.new hd (.own x)).new (by rw [upd_ne n.symm]; exact hx) (.ins C dx [])).drop2
/-- a new cell that a call has laid -/
theorem Sep.got {H' : Hp} {l' : List Cell} (S : Sep H0 ft H l) (S' : Sep H0 ft H' l') (e : l'.map (·.2.1) = l.map (·.2.1)) (hn : H p = none) (hp : H' p = some o) : Sep H0 ft H' ((2, p, o) :: l') := by
  refine S'.add 2 hp (fun c hc z => ?_) (fun e => by cases e) fun _ => S.none0 hn
  have : c.2.1 ∈ l.map (·.2.1) := by rw [← e]; exact List.mem_map.mpr ⟨c, hc, rfl⟩
  obtain ⟨d, hd, ed⟩ := List.mem_map.mp this
  have := S.rd d hd
  rw [ed, z, hn] at this; cases this
theorem map_set {i : Nat} {o' : HO} (h : l[i]? = some (t, a, o)) : (l.set i (t, a, o')).map (·.2.1) = l.map (·.2.1) := by
  rw [List.map_set]
  have : (l.map (·.2.1))[i]? = some a := by rw [List.getElem?_map, h]; rfl
  obtain ⟨x, e⟩ := List.getElem?_eq_some_iff.mp this
  rw [← e]
  exact List.set_getElem_self x
end
/-- tests -/
theorem ited {p A B : Prop} [Decidable p] (h1 : p → A) (h2 : ¬ p → B) : if decide p = true then A else B := by
  by_cases h : p
  · rw [decide_eq_true h, if_pos rfl]; exact h1 h
  · rw [decide_eq_false h, if_neg Bool.false_ne_true]; exact h2 h
theorem itend {p A B : Prop} [Decidable p] (h1 : ¬ p → A) (h2 : p → B) : if (!decide p) = true then A else B := by
  by_cases h : p
  · rw [decide_eq_true h]; exact h2 h
  · rw [decide_eq_false h]; exact h1 h
theorem iteq {i j : Int} {A B : Prop} (h1 : i = j → A) (h2 : i ≠ j → B) : if decide (V.int i = V.int j) = true then A else B := ited (fun h => h1 (V.int.inj h)) fun h => h2 fun e => h (by rw [e])
theorem itne {i j : Int} {A B : Prop} (h1 : i ≠ j → A) (h2 : i = j → B) : if (!decide (V.int i = V.int j)) = true then A else B := itend (fun h => h1 fun e => h (by rw [e])) fun h => h2 (V.int.inj h)
theorem iteb {b : Bool} {A B : Prop} (h1 : b = true → A) (h2 : b = false → B) : if b = true then A else B := by
  cases b with
  | true => rw [if_pos rfl]; exact h1 rfl
  | false => rw [if_neg Bool.false_ne_true]; exact h2 rfl
theorem itnb {b : Bool} {A B : Prop} (h1 : b = false → A) (h2 : b = true → B) : if (!b) = true then A else B := by
  cases b with
  | true => exact ite2 (fun h => nomatch h) fun _ => h2 rfl
  | false => exact ite2 (fun _ => h1 rfl) fun h => absurd rfl h
theorem itnn {b : Bool} {A B : Prop} (h : if b = true then A else B) : if (!(!b)) = true then A else B := by rw [Bool.not_not]; exact h
theorem iteSome {v : Option V} {A B : Prop} (h1 : ∀ w, v = some w → A) (h2 : v = none → B) : if v.isSome = true then A else B := by
  cases v with
  | none => exact ite2 (fun h => nomatch h) fun _ => h2 rfl
  | some w => exact ite2 (fun _ => h1 w rfl) fun h => absurd rfl h
theorem iteNone {v : Option V} {A B : Prop} (h1 : v = none → A) (h2 : ∀ w, v = some w → B) : if (!v.isSome) = true then A else B := by
  cases v with
  | none => exact ite2 (fun _ => h1 rfl) fun h => absurd rfl h
  | some w => exact ite2 (fun h => nomatch h) fun _ => h2 w rfl
theorem mul_bd {a b A B : Int} (h0 : 0 ≤ a) (h1 : a < A) (h2 : 0 ≤ b) (h3 : b < B) : 0 ≤ a * b ∧ a * b < A * B :=
  ⟨Int.mul_nonneg h0 h2, Int.lt_of_le_of_lt (Int.mul_le_mul_of_nonneg_left (Int.le_of_lt h3) h0) (Int.mul_lt_mul_of_pos_right h1 (by omega))⟩
theorem pos_lt {x y : Int} (h : 0 < x) : y % x < x := Int.emod_lt_of_pos y h
theorem mod_nn {x y : Int} (h : 0 < x) : 0 ≤ y % x := Int.emod_nonneg y (by omega)
/-! ### calls that change several cells -/
section
variable {H0 H H' : Hp} {ft ft' : List Addr} {l l' : List Cell}
/-- the cells ahead of a call, tagged anew -/
theorem Sep.retag (S : Sep H0 ft H l) (e : l'.map (·.2) = l.map (·.2)) (h1 : ∀ c ∈ l', c.1 = 1 → c.2.1 ∈ ft') (h2 : ∀ c ∈ l', c.1 ≠ 2) (h3 : ∀ b ∈ ft', b ∈ l'.map (·.2.1)) : Sep H ft' H l' := by
  have em : l'.map (·.2.1) = l.map (·.2.1) := by
    have := congrArg (List.map Prod.fst) e
    rw [List.map_map, List.map_map] at this
    exact this
  have rd : ∀ c ∈ l', H c.2.1 = some c.2.2 := fun c hc => by
    have : c.2 ∈ l.map (·.2) := by rw [← e]; exact List.mem_map.mpr ⟨c, hc, rfl⟩
    obtain ⟨d, hd, ed⟩ := List.mem_map.mp this
    have := S.rd d hd
    rw [ed] at this
    exact this
  refine ⟨by rw [em]; exact S.nd, rd, fun _ _ h _ => h, h1, fun c hc z => absurd z (h2 c hc), fun b hb => ?_⟩
  obtain ⟨c, hc, rfl⟩ := List.mem_map.mp (h3 b hb)
  exact ⟨_, rd c hc⟩
/-- the cells that a call is given: (tag, index) -/
def preL (l : List Cell) (is : List (Nat × Nat)) : List Cell := is.filterMap fun u => l[u.2]?.map fun c => (u.1, c.2)
theorem Sep.pre (S : Sep H0 ft H l) (is : List (Nat × Nat)) (hn : (is.map (·.2)).Nodup := by decide) (ht : (is.all fun u => decide (u.1 ≤ 1)) = true := by decide) : Sep H (((preL l is).filter (·.1 = 1)).map (·.2.1)) H (preL l is) := by
  refine (S.sub (is.map (·.2)) hn).retag ?_ ?_ ?_ ?_
  · unfold preL
    rw [List.map_filterMap, List.map_filterMap, List.filterMap_map]
    congr 1
    funext u
    show Option.map _ (Option.map _ l[u.2]?) = Option.map _ l[u.2]?
    cases l[u.2]? <;> rfl
  · intro c hc e
    exact List.mem_map.mpr ⟨c, List.mem_filter.mpr ⟨hc, decide_eq_true e⟩, rfl⟩
  · intro c hc e
    obtain ⟨u, hu, eu⟩ := List.mem_filterMap.mp hc
    obtain ⟨d, _, rfl⟩ := Option.map_eq_some_iff.mp eu
    have := of_decide_eq_true (List.all_eq_true.mp ht u hu)
    have e : u.1 = 2 := e
    omega
  · intro b hb
    obtain ⟨c, hc, rfl⟩ := List.mem_map.mp hb
    exact List.mem_map.mpr ⟨c, (List.mem_filter.mp hc).1, rfl⟩
/-- the cells behind it: (index, cell) -/
theorem Sep.chgs : ∀ (us : List (Nat × Cell)) {H : Hp} {l : List Cell}, Sep H0 ft H l → (∀ u ∈ us, ∃ o, l[u.1]? = some (u.2.1, u.2.2.1, o)) → (∀ u ∈ us, u.2.1 = 1 ∨ u.2.1 = 2) → (us.map (·.1)).Nodup →
    (∀ b o, H b = some o → b ∉ us.map (·.2.2.1) → H' b = some o) → (∀ u ∈ us, H' u.2.2.1 = some u.2.2.2) → Sep H0 ft H' (us.foldl (fun l u => l.set u.1 u.2) l)
  | [], _, _, S, _, _, _, F, _ => S.stay fun b o e => F b o e (fun z => nomatch z)
  | (i, t, a, o') :: r, H, l, S, hi, ht, hn, F, he => by
    obtain ⟨o, ho⟩ := hi _ List.mem_cons_self
    obtain ⟨n1, n2⟩ := List.nodup_cons.mp hn
    refine Sep.chgs r (S.put i o' ho (ht _ List.mem_cons_self)) (fun u hu => ?_) (fun u hu => ht u (List.mem_cons_of_mem _ hu)) n2 (fun b u hb hm => ?_) (fun u hu => he u (List.mem_cons_of_mem _ hu))
    · obtain ⟨v, hv⟩ := hi u (List.mem_cons_of_mem _ hu)
      exact ⟨v, by rw [List.getElem?_set_ne (fun z => n1 (List.mem_map.mpr ⟨u, hu, z.symm⟩))]; exact hv⟩
    · by_cases z : b = a
      · subst z
        rw [upd_same] at hb
        cases hb
        exact he _ List.mem_cons_self
      · rw [upd_ne z] at hb
        exact F b u hb (fun m => (List.mem_cons.mp m).elim z hm)
end
theorem fun_kbn {K : PySem.W.Frag} {x qual : Str} {st : Stmt} {f : Addr} {fd : FuncData} (F : L2.Fun K x qual st f fd) (n : Nat) (ks : List Str) (is : List Nat) {ps : List Str}
    (h : ∀ (kV doc pm : Value) (an : Option Addr) (cdv ct : Value) (us ws : List Value), us.length = n → ws.length = ks.length → bindArgs (PySem.W.fnOf x qual (defArgs st) (defBody st) (defScope st) .none kV doc pm an cdv ct) ⟨us, ks.zip ws⟩ = pure (ps.zip (us ++ kwp is ws))) :
    KBn K fd ps n ks (fun us ws => us ++ kwp is ws) (fun vs zs => vs ++ kwp is zs) := by
  obtain ⟨oc, od, kV, doc, pm, an, cdv, ct, osl, rfl, lk, hcd⟩ := F.ex
  exact ⟨fun s us ws _ l1 l2 => .of_eq (h kV doc pm an cdv ct us ws l1 l2), fun r1 r2 => r1.append (kwp_vals is r2)⟩
/-! ### rules that the layer lacks -/
section
variable {X : Cx}
theorem get_list : PGet X (rIxL X.K) := by
  intro pins s σ H x y v u Q I rx ry h
  obtain ⟨p, xs, i, z, rfl, rfl, hq, he, q⟩ := h
  cases rx
  obtain ⟨t, rfl⟩ := ry
  obtain ⟨its, r, pl, hz⟩ := I.list hq
  obtain ⟨j, h1, h2, h3, h4, h5⟩ := atI_get he
  obtain ⟨w, ew, rw'⟩ := r.get h2
  have hl := r.length
  have hn := line63
  have fin : EP X pins σ Q w s := ⟨z, H, I, rw', q⟩
  by_cases h0 : 0 ≤ i
  · have hj : i.toNat = j := by
      rw [seqIndex_of h0 h5] at h1
      exact Option.some.inj h1
    exact wpAny_getItem_list pl.isList h0 (by omega) (by rw [hj]; simpa using ew) fin
  · have hj : (i + (its.toArray.size : Int)).toNat = j := by
      rw [seqIndex_neg (by omega) h4] at h1
      rw [List.size_toArray, ← hl]
      exact Option.some.inj h1
    exact wpAny_getItem_list_neg pl.isList (by omega) (by rw [List.size_toArray] <;> omega) (by omega) (by rw [hj]; simpa using ew) fin
end
end G

set_option linter.all false
set_option maxRecDepth 100000
/-! walks, locked dicts, dicts with tuple keys, more methods -/
namespace G
open PySem PySem.Spec PyProof.Rows L2
section
variable {H0 H : Hp} {ft : List Addr} {l : List Cell} {t : Nat} {a p : Addr} {o u : HO} {K : PySem.W.Frag} {σ : L2.St} {Q : VK} {v x y z : V} {i j : Int}
theorem x_join (te : TE) (R : V → Hp → Prop) (k : ∀ v H', R v H' → Q v H') (h : (∀ v H', R v H' → Q v H') → te σ H Q) : te σ H Q := h k
theorem x_orT {ta tb : TE} (h : ta σ H fun x H1 => ∃ k, TruV K x H1 k ∧ if k = true then Q x H1 else tb σ H1 Q) : tOrT K ta tb σ H Q := h
theorem forW {J : It} {n : Nat} {G : Hp → Prop} {Y : Nat → Hp → V → Hp → Prop} (w : Walk J n G Y) {g : TG} {tb : TS} {D : Ends} (Pv : Nat → L2.St → Hp → Prop) (h0 : Pv 0 σ H) (hG : ∀ i σ H, i ≤ n → Pv i σ H → G H)
    (hs : ∀ i x σ H H', i < n → Pv i σ H → Y i H x H' → g x σ H' fun σ2 H2 => tb { D with nx := Pv (i + 1), ct := Pv (i + 1), bk := D.nx } σ2 H2) (hd : ∀ σ H, Pv n σ H → D.nx σ H) : ForJ J g tb D σ H := for_it w Pv h0 hG hs hd
theorem lcW {J : It} {n : Nat} {G : Hp → Prop} {Y : Nat → Hp → V → Hp → Prop} (w : Walk J n G Y) {g : TG} {tt : TT} {te : TE} {vs : List Nat} (S : Sep H0 ft H l)
    (h : ∀ D H1, Sep H0 ft H1 ((2, D, .lst []) :: l) → ∃ Pv : Nat → Hp → Prop, Pv 0 H1 ∧ (∀ i H, i ≤ n → Pv i H → G H) ∧
      (∀ i x H H', i < n → Pv i H → Y i H x H' → g x (wipe σ vs) H' fun σ2 H2 => wipe σ2 vs = wipe σ vs ∧ tt σ2 H2 fun b H3 => if b = true then te σ2 H3 fun y H4 => rLcA D y H4 (Pv (i + 1)) else Pv (i + 1) H3) ∧
      ∀ H, Pv n H → Q (.ref D) H) : LcJ J g tt te vs σ H Q := fun D hD =>
  let ⟨Pv, h0, hG, hs, hd⟩ := h D _ (S.new hD (.lst []))
  lc_it w (H1 := H) Pv h0 hG hs hd
theorem pg_tupK {X : Cx} {pos : Pos} {es : List Expr} {k : Nat} {t : TGs} (K : PySem.W.Frag) (n : Nat) (hc : X.calm = true) (h : PGs X es t) (hn : (assignEach es X.env).length = n := by rfl) (hst : (assignEach es X.env).findIdx? (·.1) = none := by rfl) (e : X.K = K := by rfl) : PG X (.Tuple es k pos) (gTup K n t) := by
  subst e; exact pg_tup hc h hn hst
def tNevE : TE := fun _ _ _ => False
theorem pe_never {X : Cx} {e : Expr} : PE X e tNevE := ⟨fun _ _ _ _ _ _ h => h.elim⟩
def tNevT : TT := fun _ _ _ => False
theorem pt_never {X : Cx} {e : Expr} : PT X e tNevT := ⟨fun _ _ _ _ _ _ h => h.elim⟩
/-! a dict that is walked stands locked -/
def rUnl (p : Addr) (od : Obj) (u : HO) (H : Hp) (R : Hp → Prop) : Prop := H p = some (.frz od u) ∧ R (upd H p u)
theorem x_lockE {te : TE} (S : Sep H0 ft H l) (n : Nat) (h : l[n]? = some (t, p, u)) (mu : Mut (some u)) (q : ∀ od H', Sep H0 ft H' (l.set n (t, p, .frz od u)) → te σ H' fun v H2 => rUnl p od u H2 (Q v))
    (ht : t = 1 ∨ t = 2 := by first | exact .inl rfl | exact .inr rfl) : tLockE te σ H Q := ⟨p, u, S.get n h, mu, fun od => q od _ (S.put n _ h ht)⟩
theorem x_unl {od : Obj} {R : Hp → Prop} (S : Sep H0 ft H l) (n : Nat) (h : l[n]? = some (t, p, .frz od u)) (q : ∀ H', Sep H0 ft H' (l.set n (t, p, u)) → R H') (ht : t = 1 ∨ t = 2 := by first | exact .inl rfl | exact .inr rfl) : rUnl p od u H R :=
  ⟨S.get n h, q _ (S.put n _ h ht)⟩
def lockD (p : Addr) (od : Obj) (u : HO) (D : Ends) : Ends := ⟨fun σ' H' => rUnl p od u H' (D.nx σ'), fun v H' => rUnl p od u H' (D.rt v), fun σ' H' => rUnl p od u H' (D.bk σ'), fun σ' H' => rUnl p od u H' (D.ct σ')⟩
theorem x_lockS {ts : TS} {D : Ends} (S : Sep H0 ft H l) (n : Nat) (h : l[n]? = some (t, p, u)) (mu : Mut (some u)) (q : ∀ od H', Sep H0 ft H' (l.set n (t, p, .frz od u)) → ts (lockD p od u D) σ H')
    (ht : t = 1 ∨ t = 2 := by first | exact .inl rfl | exact .inr rfl) : tLock ts D σ H := ⟨p, u, S.get n h, mu, fun od => q od _ (S.put n _ h ht)⟩
def rKeys : V → Hp → (It → Hp → Prop) → Prop := fun x H R => ∃ d o, x = .ref d ∧ ((∃ kvs, H d = some (.frz o (.dK kvs)) ∧ R (Itk d o kvs) H) ∨ ∃ kvs, H d = some (.frz o (.dT kvs)) ∧ R (Itkt d o kvs) H)
def iKeys1 (td : TE) : TI := fun σ H R => td σ H fun x H1 => rKeys x H1 R
theorem pi_keys1 {X : Cx} {tg e : Expr} {td : TE} (he : PE X e td) : PI X tg e (iKeys1 td) := pi_keys he
theorem x_ikeysT {od : Obj} {kvs : List (List Key × V)} {R : It → Hp → Prop} (S : Sep H0 ft H l) (n : Nat) (h : l[n]? = some (t, p, .frz od (.dT kvs))) (q : R (Itkt p od kvs) H) : rKeys (.ref p) H R := ⟨p, od, rfl, .inr ⟨kvs, S.get n h, q⟩⟩
theorem x_ikeys {od : Obj} {kvs : List (Key × V)} {R : It → Hp → Prop} (S : Sep H0 ft H l) (n : Nat) (h : l[n]? = some (t, p, .frz od (.dK kvs))) (q : R (Itk p od kvs) H) : rKeys (.ref p) H R := ⟨p, od, rfl, .inl ⟨kvs, S.get n h, q⟩⟩
def rEnum (K : PySem.W.Frag) : List V → Hp → (It → Hp → Prop) → Prop := fun vs H R => ∃ a xs, vs = [.ref a] ∧ SqL K H a xs ∧ R (Ite K a) H
def iEnum1 (K : PySem.W.Frag) (ta : TA) : TI := fun σ H R => ta σ H fun vs H1 => rEnum K vs H1 R
theorem pi_enumK {X : Cx} {e : Expr} {ta : TA} {p pos tpos : Pos} {elts : List Expr} {kk : Nat} (K : PySem.W.Frag) (hg : Gl X "enumerate") (hm : X.mg "enumerate" = none) (ha : PA X [e] ta) (hs : starEach [e] X.env = [(false, eval e X.env)] := by rfl) (h : X.K = K := by rfl) :
    PI X (.Tuple elts kk tpos) (.Call (.Name "enumerate" p) [e] [] pos) (iEnum1 K ta) := by subst h; exact pi_enum hg hm ha hs
theorem x_enum {xs : List V} {R : It → Hp → Prop} (S : Sep H0 ft H l) (n : Nat) (h : l[n]? = some (t, p, .lst xs)) (q : R (Ite K p) H) : rEnum K [.ref p] H R := ⟨p, xs, rfl, S.sl n h, q⟩
/-! dicts with tuple keys -/
def rDNewT : Hp → VK → Prop := fun H Q => ∀ p, H p = none → Q (.ref p) (upd H p (.dT []))
def tDNewT1 : TE := fun _ H Q => rDNewT H Q
theorem pe_dnewT1 {X : Cx} {pos : Pos} : PE X (.Dict [] [] pos) tDNewT1 := pe_dnewT
theorem x_dnewT (S : Sep H0 ft H l) (q : ∀ p H', Sep H0 ft H' ((2, p, .dT []) :: l) → Q (.ref p) H') : rDNewT H Q := x_new S _ q
theorem x_dputT {t' : Nat} {b : Addr} {kvs : List (List Key × V)} {xs : List V} {R : Hp → Prop} (k : List Key) (S : Sep H0 ft H l) (n m : Nat) (h : l[n]? = some (t, p, .dT kvs)) (h' : l[m]? = some (t', b, .tup xs)) (hl : kvs.length < 100000) (q : ∀ H', Sep H0 ft H' (l.set n (t, p, .dT (putK kvs k v))) → R H')
    (e : xs = k.map kV := by rfl) (ht : t = 1 ∨ t = 2 := by first | exact .inl rfl | exact .inr rfl) : rDPut (.ref p) (.ref b) v H R := by
  subst e; exact ⟨p, _, rfl, DPut.t (S.get n h) (S.get m h') (Nat.lt_of_lt_of_le hl (by decide)), q _ (S.put n _ h ht)⟩
theorem x_dinT {t' : Nat} {b : Addr} {kvs : List (List Key × V)} {xs : List V} (k : List Key) (S : Sep H0 ft H l) (n m : Nat) (h : l[n]? = some (t, p, .dT kvs)) (h' : l[m]? = some (t', b, .tup xs)) (q : Q (.bl (valV kvs k).isSome) H) (e : xs = k.map kV := by rfl) : rDIn (.ref b) (.ref p) H Q := by
  subst e; exact ⟨p, _, rfl, DGet.t (S.get n h) (S.get m h'), q⟩
theorem x_dniT {t' : Nat} {b : Addr} {kvs : List (List Key × V)} {xs : List V} (k : List Key) (S : Sep H0 ft H l) (n m : Nat) (h : l[n]? = some (t, p, .dT kvs)) (h' : l[m]? = some (t', b, .tup xs)) (q : Q (.bl (!(valV kvs k).isSome)) H) (e : xs = k.map kV := by rfl) : rDNi (.ref b) (.ref p) H Q := by
  subst e; exact ⟨p, _, rfl, DGet.t (S.get n h) (S.get m h'), q⟩
/-! d.get -/
def rDG (y z : V) (a : Addr) (H : Hp) (Q : VK) : Prop := ∃ o, DGet H a y o ∧ Q (o.getD z) H
def tDG1 (td ty : TE) : TE := fun σ H Q => td σ H fun x H1 => rIsD x H1 fun a => ty σ H1 fun y H2 => rDG y .non a H2 Q
def tDG2 (td ty tx : TE) : TE := fun σ H Q => td σ H fun x H1 => rIsD x H1 fun a => ty σ H1 fun y H2 => tx σ H2 fun z H3 => rDG y z a H3 Q
section
variable {X : Cx} {td ty tx : TE} {oe e f : Expr} {apos cpos : Pos}
theorem pe_dg1 (hu : X.A.units + 1 < cLine) (ho : PE X oe td) (he : PE X e ty) (m : M1 X oe "get" apos e cpos) : PE X (.Call (.Attribute oe "get" apos) [e] [] cpos) (tDG1 td ty) := pe_dget1 hu ho he m
theorem pe_dg2 (hu : X.A.units + 1 < cLine) (ho : PE X oe td) (he : PE X e ty) (hf : PE X f tx) (m : M2 X oe "get" apos e f cpos) : PE X (.Call (.Attribute oe "get" apos) [e, f] [] cpos) (tDG2 td ty tx) := pe_dget2 hu ho he hf m
end
theorem x_dg {kvs : List (Key × V)} {k : Key} (S : Sep H0 ft H l) (n : Nat) (h : l[n]? = some (t, p, .dK kvs)) (q0 : valV kvs k = none → Q z H) (q1 : ∀ v, valV kvs k = some v → Q v H) : rDG (kV k) z p H Q := by
  refine ⟨_, DGet.k (k := k) (S.get n h), ?_⟩
  cases e : valV kvs k with
  | none => exact q0 e
  | some v => exact q1 v e
theorem x_dgT {t' : Nat} {b : Addr} {kvs : List (List Key × V)} {xs : List V} (k : List Key) (S : Sep H0 ft H l) (n m : Nat) (h : l[n]? = some (t, p, .dT kvs)) (h' : l[m]? = some (t', b, .tup xs)) (q0 : valV kvs k = none → Q z H) (q1 : ∀ v, valV kvs k = some v → Q v H) (e : xs = k.map kV := by rfl) : rDG (.ref b) z p H Q := by
  subst e
  refine ⟨_, DGet.t (k := k) (S.get n h) (S.get m h'), ?_⟩
  cases e : valV kvs k with
  | none => exact q0 e
  | some v => exact q1 v e
theorem x_isDT {kvs : List (List Key × V)} {R : Addr → Prop} (S : Sep H0 ft H l) (n : Nat) (h : l[n]? = some (t, p, .dT kvs)) (q : R p) : rIsD (.ref p) H R := ⟨p, rfl, .inr ⟨_, .inl (S.get n h)⟩, q⟩
/-! more calls -/
def rAbs : List V → Hp → VK → Prop := fun xs H Q => ∃ i, xs = [.int i] ∧ Q (.int (if i < 0 then -i else i)) H
theorem cl_abs {X : Cx} : CallR X (.builtin "abs") rAbs := call_abs
theorem x_abs (q : Q (.int (i.natAbs : Int)) H) : rAbs [.int i] H Q := ⟨i, rfl, by
  have : (if i < 0 then -i else i) = (i.natAbs : Int) := by split <;> omega
  rw [this]; exact q⟩
theorem cl_maxK {X : Cx} (K : PySem.W.Frag) (hc : X.calm = true) (h : X.K = K := by rfl) : CallR X (.builtin "max") (rMax K) := by subst h; exact cr_max hc
theorem x_maxL {ns : List Int} (S : Sep H0 ft H l) (n : Nat) (h : l[n]? = some (t, p, .lst (ns.map V.int))) (hl : 0 < ns.length) (q : ∀ m, m ∈ ns → (∀ y, y ∈ ns → y ≤ m) → Q (.int m) H) : rMax K [.ref p] H Q := ⟨p, ns, rfl, S.sl n h, hl, q⟩
theorem cl_sortedK {X : Cx} (K : PySem.W.Frag) (h : X.K = K := by rfl) : CallR X (.builtin "sorted") (rSorted K) := by subst h; exact cr_sorted
theorem x_sorted {ns : List Int} (S : Sep H0 ft H l) (n : Nat) (h : l[n]? = some (t, p, .lst (ns.map V.int))) (hl : ns.length < 64) (q : ∀ (ns' : List Int) r H', ns'.Perm ns → ns'.Pairwise (· ≤ ·) → Sep H0 ft H' ((2, r, .lst (ns'.map V.int)) :: l) → Q (.ref r) H') : rSorted K [.ref p] H Q :=
  ⟨p, ns, rfl, S.sl n h, hl, fun ns' r hp hw hr => q ns' r _ hp hw (S.new hr _)⟩
theorem x_cat {q1 : Addr} {t' : Nat} {xs ys : List V} (S : Sep H0 ft H l) (n m : Nat) (h : l[n]? = some (t, p, .lst xs)) (h' : l[m]? = some (t', q1, .lst ys)) (hl : xs.length + ys.length ≤ 100000) (q : ∀ r H', Sep H0 ft H' ((2, r, .lst (xs ++ ys)) :: l) → Q (.ref r) H') : rCat (.ref p) (.ref q1) H Q :=
  ⟨p, q1, xs, ys, rfl, rfl, S.get n h, S.get m h', Nat.le_trans hl (by decide), x_new S _ q⟩
theorem x_rev {xs : List V} (S : Sep H0 ft H l) (n : Nat) (h : l[n]? = some (t, p, .lst xs)) (q : ∀ H', Sep H0 ft H' (l.set n (t, p, .lst xs.reverse)) → Q .non H') (ht : t = 1 ∨ t = 2 := by first | exact .inl rfl | exact .inr rfl) : rReverse (.ref p) [] H Q := ⟨p, xs, rfl, rfl, S.get n h, q _ (S.put n _ h ht)⟩
theorem x_clear {xs : List V} (S : Sep H0 ft H l) (n : Nat) (h : l[n]? = some (t, p, .lst xs)) (q : ∀ H', Sep H0 ft H' (l.set n (t, p, .lst [])) → Q .non H') (ht : t = 1 ∨ t = 2 := by first | exact .inl rfl | exact .inr rfl) : rClear (.ref p) [] H Q := ⟨p, xs, rfl, rfl, S.get n h, q _ (S.put n _ h ht)⟩
theorem x_appI {cs : List Int} (S : Sep H0 ft H l) (n : Nat) (h : l[n]? = some (t, p, .lst (cs.map V.int))) (hl : cs.length < 100000) (q : ∀ H', Sep H0 ft H' (l.set n (t, p, .lst ((cs ++ [i]).map V.int))) → Q .non H') (ht : t = 1 ∨ t = 2 := by first | exact .inl rfl | exact .inr rfl) :
    rAppend (.ref p) [.int i] H Q := x_app S n h (by rw [List.length_map]; exact hl) (fun H' S' => q H' (by rw [List.map_append]; exact S')) ht
/-! a list of which the script's cells are read -/
theorem x_slS {cs : List Int} {lo hi : Option Int} (hs : SqL K H p (cs.map V.int)) (S : Sep H0 ft H l) (q : ∀ r H', Sep H0 ft H' ((2, r, .lst ((cutI cs lo hi).map V.int)) :: l) → Q (.ref r) H') : rSlL K (.ref p) lo hi H Q :=
  ⟨p, _, rfl, hs, by rw [cutV_map]; exact x_new S _ q⟩
theorem len_cutI {α : Type} (xs : List α) (lo hi : Option Int) : (cutI xs lo hi).length ≤ xs.length := by
  unfold cutI
  rw [List.length_take, List.length_drop]
  omega
theorem cutV_from {xs : List V} {i : Int} (h0 : 0 ≤ i) : cutV xs (some i) none = xs.drop i.toNat := by
  unfold cutV
  have e : i = (i.toNat : Int) := by omega
  rw [e, HT.sIx_nat, Int.toNat_natCast]
  have e2 : HT.sIx xs.length xs.length none = xs.length := by unfold HT.sIx; simp
  rw [e2]
  by_cases hl : i.toNat ≤ xs.length
  · rw [Nat.min_eq_left hl, List.take_of_length_le (by rw [List.length_drop]; exact Nat.le_refl _)]
  · rw [Nat.min_eq_right (by omega), List.drop_length, List.take_nil, List.drop_eq_nil_of_le (by omega)]
end
end G

set_option linter.all false
set_option maxRecDepth 100000
set_option maxHeartbeats 4000000
namespace G
open PySem PySem.Spec PyProof.Rows L2
def topS (i : Nat) : Stmt := PySem.Challenge.pw_farasked_k13_calls_that_tell_nothing.main.body.getD i (.Pass ⟨0, 0, 0, 0⟩)
abbrev s_law_draw : Stmt := (topS 12)
theorem sc_law_draw : FnScope ["_law_hold", "_law_size", "_law_spot", "_law_cell", "_law_mark"] ["_law_hold", "_law_size"] (defScope s_law_draw) := ⟨rfl, rfl, rfl, by decide +kernel, rfl, by decide +kernel, by decide +kernel⟩

/-- hold: how many draws, the cells -/
structure Hold (n : Int) (cs : List Int) : Prop where
  ne : cs ≠ []
  len : cs.length ≤ 63
  nn : 0 ≤ n
def spDraw : Sp := fun vs H Q _ => ∃ (p q : Addr) (n m : Int) (cs : List Int), vs = [.ref p, .int m] ∧ H p = some (.lst [.int n, .ref q]) ∧ H q = some (.lst (cs.map V.int)) ∧ p ≠ q ∧ Hold n cs ∧ n < 2 ^ 40 ∧ 0 < m ∧ m < 2 ^ 200 ∧
  ∀ (r : Int) (cs' : List Int) (H' : Hp), 0 ≤ r → r < m → Hold (n + 1) cs' → H' p = some (.lst [.int (n + 1), .ref q]) → H' q = some (.lst (cs'.map V.int)) → (∀ b o, H b = some o → b ≠ p → b ≠ q → H' b = some o) → Q (.int r) H'
theorem c_draw {H0 H : Hp} {ft : List Addr} {l : List Cell} {t t' : Nat} {p q : Addr} {n m : Int} {cs : List Int} {Q : VK} {E : XK} (S : Sep H0 ft H l) (i j : Nat) (hi : l[i]? = some (t, p, .lst [.int n, .ref q])) (hj : l[j]? = some (t', q, .lst (cs.map V.int)))
    (h : Hold n cs) (hn : n < 2 ^ 40) (hm : 0 < m) (hm2 : m < 2 ^ 200)
    (k : ∀ (r : Int) (cs' : List Int) (H' : Hp), 0 ≤ r → r < m → Hold (n + 1) cs' → Sep H0 ft H' ((l.set i (t, p, .lst [.int (n + 1), .ref q])).set j (t', q, .lst (cs'.map V.int))) → Q (.int r) H')
    (d : i ≠ j := by decide) (ht : t = 1 ∨ t = 2 := by first | exact .inl rfl | exact .inr rfl) (ht' : t' = 1 ∨ t' = 2 := by first | exact .inl rfl | exact .inr rfl) : spDraw [.ref p, .int m] H Q E :=
  ⟨p, q, n, m, cs, rfl, S.get i hi, S.get j hj, S.ne i j hi hj d, h, hn, hm, hm2, fun r cs' H' h0 h1 hh e1 e2 F => k r cs' H' h0 h1 hh (S.chg2 i j hi hj d F e1 e2 ht ht')⟩
section
variable {P : Program} {w : World} {K : PySem.W.Frag} {mg : Str → Option Value} {base : Heap}
theorem ok_draw {f : Addr} {fd : FuncData} (F : Fun K "_law_draw" "_law_draw" s_law_draw f fd) (z_len : mg "len" = none) : FnOk P w K mg base CX0 1 f fd ["_law_hold", "_law_size"] spDraw := by
  refine F.ok sc_law_draw (fun vs H Q E h => ?_) (fun cdv A outer s H vs Q E hr h => ?_)
  · obtain ⟨p, q, n, m, cs, rfl, _⟩ := h
    rfl
  · obtain ⟨p, q, n, m, cs, rfl, hp, hq, npq, ⟨hcs, hl, hn0⟩, hn, hm0, hm, k⟩ := h
    have S := Sep.of2 hp hq npq
    have hc0 : 0 < cs.length := List.length_pos_iff.mpr hcs
    refine ⟨_, pss_cons (ps_set (i := 2) sc_law_draw.nd rfl (.inl rfl) (pe_op op_mod (pe_ix (ix_listK K) (pv 0) (pe_int) (fun _ _ => rfl)) (pe_callB (cl_lenK K) (by rfl) z_len PySem.boot_len (pa_cons (pe_ix (ix_listK K) (pv 0) (pe_int) (fun _ _ => rfl)) pa_nil))))
      (pss_cons (ps_set (i := 3) sc_law_draw.nd rfl (.inl rfl) (pe_ix (ix_listK K) (pe_ix (ix_listK K) (pv 0) (pe_int) (fun _ _ => rfl)) (pv 2) (fun _ _ => rfl)))
      (pss_cons (ps_augS (pv 0) (pe_int) get_list (pe_int) ip_add set_list)
      (pss_cons (ps_if (pt_cmpR op_ge (pv 3) (pe_int) (nomark _)) (pss_cons (ps_asg (pe_op op_fdivW (pv 3) (pv 1)) (pg_sub (pe_ix (ix_listK K) (pv 0) (pe_int) (fun _ _ => rfl)) (pv 2) set_list))
      (pss_one (ps_ret (pe_op op_mod (pv 3) (pv 1))))) (pss_nil))
      (pss_cons (ps_set (i := 4) sc_law_draw.nd rfl (.inl rfl) (pe_op op_mod (pe_op op_add (pe_op op_mod (pv 3) (pe_int)) (pe_op op_mul (pe_int) (pe_ix (ix_listK K) (pv 0) (pe_int) (fun _ _ => rfl)))) (pe_int)))
      (pss_cons (ps_set (i := 4) sc_law_draw.nd rfl (.inl rfl) (pe_op op_mod (pe_op op_mul (pe_op op_mod (pe_op op_pow (pv 4) (pe_int)) (pe_int)) (pe_int)) (pe_int)))
      (pss_one (ps_ret (pe_op op_mod (pe_op op_fdivW (pe_op op_mod (pe_op op_pow (pe_op op_add (pv 4) (pe_op op_mul (pe_op op_mod (pv 3) (pe_int)) (pe_ix (ix_listK K) (pv 0) (pe_int) (fun _ _ => rfl)))) (pe_int)) (pe_int)) (pe_int)) (pv 1))))))))), ?_⟩
    rw [show start ["_law_hold", "_law_size", "_law_spot", "_law_cell", "_law_mark"] [V.ref p, V.int m] = [some (V.ref p), some (V.int m), none, none, none] from rfl]
    try dsimp only [tSeq, tAsg, gName, tOp, tUn, tCB, tCons, tNil, tCall, tMethK1, tCallK1, tPar3, tRet, tRetN, tDrop, tTest, tB, tC, tNext, tAugS, tAug, sFld1, sFldAug1, tMeth1, tMake, tMakeK1, tSl, tPart, tNoPart, sDPut1, tDPop, tBM, tBM0, tPar, gSub, tChain, tNot, tNotV, tDG1, tDG2, tDNewT1, iKeys1, iEnum1, iList1, iTup1, iRng1, iRng2, List.set_cons_zero, List.set_cons_succ]
    refine x_var (by exact rfl) ?_
    refine x_ixF S 0 (by exact rfl) (by exact rfl) ?_
    refine x_var (by exact rfl) ?_
    refine x_ixF S 0 (by exact rfl) (by exact rfl) ?_
    refine x_lenI S 1 (by exact rfl) ?_
    refine x_I (by first | decide | (show (0 : Int) < _; omega)) ?_
    try dsimp only [tSeq, tAsg, gName, tOp, tUn, tCB, tCons, tNil, tCall, tMethK1, tCallK1, tPar3, tRet, tRetN, tDrop, tTest, tB, tC, tNext, tAugS, tAug, sFld1, sFldAug1, tMeth1, tMake, tMakeK1, tSl, tPart, tNoPart, sDPut1, tDPop, tBM, tBM0, tPar, gSub, tChain, tNot, tNotV, tDG1, tDG2, tDNewT1, iKeys1, iEnum1, iList1, iTup1, iRng1, iRng2, List.set_cons_zero, List.set_cons_succ]
    refine x_var (by exact rfl) ?_
    refine x_ixF S 0 (by exact rfl) (by exact rfl) ?_
    refine x_var (by exact rfl) ?_
    refine x_ixI S 1 (by exact rfl) (by first | omega | exact Int.emod_nonneg _ (by omega)) (by first | omega | exact Int.emod_lt_of_pos _ (by omega)) (fun v1 hv1 => ?_)
    try dsimp only [tSeq, tAsg, gName, tOp, tUn, tCB, tCons, tNil, tCall, tMethK1, tCallK1, tPar3, tRet, tRetN, tDrop, tTest, tB, tC, tNext, tAugS, tAug, sFld1, sFldAug1, tMeth1, tMake, tMakeK1, tSl, tPart, tNoPart, sDPut1, tDPop, tBM, tBM0, tPar, gSub, tChain, tNot, tNotV, tDG1, tDG2, tDNewT1, iKeys1, iEnum1, iList1, iTup1, iRng1, iRng2, List.set_cons_zero, List.set_cons_succ]
    refine x_var (by exact rfl) ?_
    refine x_ixF S 0 (by exact rfl) (by exact rfl) ?_
    refine x_ip ?_
    refine x_setL S 0 (by exact rfl) (by exact rfl) (fun H S => ?_)
    simp only [List.set_cons_zero, List.set_cons_succ] at S
    try dsimp only [tSeq, tAsg, gName, tOp, tUn, tCB, tCons, tNil, tCall, tMethK1, tCallK1, tPar3, tRet, tRetN, tDrop, tTest, tB, tC, tNext, tAugS, tAug, sFld1, sFldAug1, tMeth1, tMake, tMakeK1, tSl, tPart, tNoPart, sDPut1, tDPop, tBM, tBM0, tPar, gSub, tChain, tNot, tNotV, tDG1, tDG2, tDNewT1, iKeys1, iEnum1, iList1, iTup1, iRng1, iRng2, List.set_cons_zero, List.set_cons_succ]
    refine x_if ?_
    try dsimp only [tSeq, tAsg, gName, tOp, tUn, tCB, tCons, tNil, tCall, tMethK1, tCallK1, tPar3, tRet, tRetN, tDrop, tTest, tB, tC, tNext, tAugS, tAug, sFld1, sFldAug1, tMeth1, tMake, tMakeK1, tSl, tPart, tNoPart, sDPut1, tDPop, tBM, tBM0, tPar, gSub, tChain, tNot, tNotV, tDG1, tDG2, tDNewT1, iKeys1, iEnum1, iList1, iTup1, iRng1, iRng2, List.set_cons_zero, List.set_cons_succ]
    refine x_var (by exact rfl) ?_
    refine x_I0 ?_
    refine ⟨_, rfl, ?_⟩
    refine ited (fun c1 => ?_) (fun c1 => ?_)
    · try dsimp only [tSeq, tAsg, gName, tOp, tUn, tCB, tCons, tNil, tCall, tMethK1, tCallK1, tPar3, tRet, tRetN, tDrop, tTest, tB, tC, tNext, tAugS, tAug, sFld1, sFldAug1, tMeth1, tMake, tMakeK1, tSl, tPart, tNoPart, sDPut1, tDPop, tBM, tBM0, tPar, gSub, tChain, tNot, tNotV, tDG1, tDG2, tDNewT1, iKeys1, iEnum1, iList1, iTup1, iRng1, iRng2, List.set_cons_zero, List.set_cons_succ]
      refine x_var (by exact rfl) ?_
      refine x_var (by exact rfl) ?_
      refine x_I (by first | exact ⟨by decide, by decide⟩ | exact div_ok (by omega) (by omega)) ?_
      refine x_var (by exact rfl) ?_
      refine x_ixF S 0 (by exact rfl) (by exact rfl) ?_
      refine x_var (by exact rfl) ?_
      refine x_setI S 1 (by exact rfl) (by first | omega | exact Int.emod_nonneg _ (by omega)) (by first | omega | exact Int.emod_lt_of_pos _ (by omega)) (fun H S => ?_)
      simp only [List.set_cons_zero, List.set_cons_succ] at S
      try dsimp only [tSeq, tAsg, gName, tOp, tUn, tCB, tCons, tNil, tCall, tMethK1, tCallK1, tPar3, tRet, tRetN, tDrop, tTest, tB, tC, tNext, tAugS, tAug, sFld1, sFldAug1, tMeth1, tMake, tMakeK1, tSl, tPart, tNoPart, sDPut1, tDPop, tBM, tBM0, tPar, gSub, tChain, tNot, tNotV, tDG1, tDG2, tDNewT1, iKeys1, iEnum1, iList1, iTup1, iRng1, iRng2, List.set_cons_zero, List.set_cons_succ]
      refine x_var (by exact rfl) ?_
      refine x_var (by exact rfl) ?_
      refine x_I (by first | decide | (show (0 : Int) < _; omega)) ?_
      refine k _ _ _ ?_ ?_ ⟨?_, ?_, ?_⟩ (S.get 0 rfl) (S.get 1 rfl) S.out2
      · exact Int.emod_nonneg _ (by omega)
      · exact Int.emod_lt_of_pos _ (by omega)
      · first | exact hcs | (intro e; have := congrArg List.length e; rw [List.length_set] at this; exact hcs (List.length_eq_zero_iff.mp this))
      · first | exact hl | (rw [List.length_set]; exact hl)
      · omega
    · try dsimp only [tSeq, tAsg, gName, tOp, tUn, tCB, tCons, tNil, tCall, tMethK1, tCallK1, tPar3, tRet, tRetN, tDrop, tTest, tB, tC, tNext, tAugS, tAug, sFld1, sFldAug1, tMeth1, tMake, tMakeK1, tSl, tPart, tNoPart, sDPut1, tDPop, tBM, tBM0, tPar, gSub, tChain, tNot, tNotV, tDG1, tDG2, tDNewT1, iKeys1, iEnum1, iList1, iTup1, iRng1, iRng2, List.set_cons_zero, List.set_cons_succ]
      refine x_var (by exact rfl) ?_
      refine x_I (by first | decide | (show (0 : Int) < _; omega)) ?_
      refine x_var (by exact rfl) ?_
      refine x_ixF S 0 (by exact rfl) (by exact rfl) ?_
      refine x_I (by first | exact .inr ⟨by decide, by decide⟩ | exact .inl ⟨by decide, by decide⟩ | exact .inr ⟨by omega, by omega⟩ | exact .inl ⟨by omega, by omega⟩) ?_
      refine x_I0 ?_
      refine x_I (by first | decide | (show (0 : Int) < _; omega)) ?_
      try dsimp only [tSeq, tAsg, gName, tOp, tUn, tCB, tCons, tNil, tCall, tMethK1, tCallK1, tPar3, tRet, tRetN, tDrop, tTest, tB, tC, tNext, tAugS, tAug, sFld1, sFldAug1, tMeth1, tMake, tMakeK1, tSl, tPart, tNoPart, sDPut1, tDPop, tBM, tBM0, tPar, gSub, tChain, tNot, tNotV, tDG1, tDG2, tDNewT1, iKeys1, iEnum1, iList1, iTup1, iRng1, iRng2, List.set_cons_zero, List.set_cons_succ]
      refine x_var (by exact rfl) ?_
      refine x_I ⟨by decide, by decide, by first | assumption | omega⟩ ?_
      refine x_I (by first | decide | (show (0 : Int) < _; omega)) ?_
      refine x_I (by first | exact .inr ⟨by decide, by decide⟩ | exact .inl ⟨by decide, by decide⟩ | exact .inr ⟨by omega, by omega⟩ | exact .inl ⟨by omega, by omega⟩) ?_
      refine x_I (by first | decide | (show (0 : Int) < _; omega)) ?_
      try dsimp only [tSeq, tAsg, gName, tOp, tUn, tCB, tCons, tNil, tCall, tMethK1, tCallK1, tPar3, tRet, tRetN, tDrop, tTest, tB, tC, tNext, tAugS, tAug, sFld1, sFldAug1, tMeth1, tMake, tMakeK1, tSl, tPart, tNoPart, sDPut1, tDPop, tBM, tBM0, tPar, gSub, tChain, tNot, tNotV, tDG1, tDG2, tDNewT1, iKeys1, iEnum1, iList1, iTup1, iRng1, iRng2, List.set_cons_zero, List.set_cons_succ]
      have hb := mul_bd (a := v1 % 1000003) (b := n + 1) (A := 1000003) (B := 2 ^ 41) (Int.emod_nonneg _ (by decide)) (Int.emod_lt_of_pos _ (by decide)) (by omega) (by omega)
      refine x_var (by exact rfl) ?_
      refine x_var (by exact rfl) ?_
      refine x_I (by first | decide | (show (0 : Int) < _; omega)) ?_
      refine x_var (by exact rfl) ?_
      refine x_ixF S 0 (by exact rfl) (by exact rfl) ?_
      refine x_I (by first | exact .inr ⟨by decide, by decide⟩ | exact .inl ⟨by decide, by decide⟩ | exact .inr ⟨by omega, by omega⟩ | exact .inl ⟨by omega, by omega⟩) ?_
      refine x_I0 ?_
      refine x_I ⟨by decide, by decide, by first | assumption | omega⟩ ?_
      refine x_I (by first | decide | (show (0 : Int) < _; omega)) ?_
      refine x_I (by first | exact ⟨by decide, by decide⟩ | exact div_ok (by omega) (by omega)) ?_
      refine x_var (by exact rfl) ?_
      refine x_I (by first | decide | (show (0 : Int) < _; omega)) ?_
      refine k _ _ _ ?_ ?_ ⟨?_, ?_, ?_⟩ (S.get 0 rfl) (S.get 1 rfl) S.out2
      · exact Int.emod_nonneg _ (by omega)
      · exact Int.emod_lt_of_pos _ (by omega)
      · first | exact hcs | (intro e; have := congrArg List.length e; rw [List.length_set] at this; exact hcs (List.length_eq_zero_iff.mp this))
      · first | exact hl | (rw [List.length_set]; exact hl)
      · omega
end
/-! ### Giver -/
def F_Giver (b : Int) (h : Int) (pl : Addr) (c : Bool) : List (Str × V) := [(("below" : Str), V.int b), (("behind" : Str), V.int h), (("pieces" : Str), V.ref pl), (("closed" : Str), V.bl c)]
theorem lk_Giver_below {b : Int} {h : Int} {pl : Addr} {c : Bool} : (F_Giver b h pl c).lookup ("below" : Str) = some (V.int b) := by kernel_rfl
theorem lk_Giver_behind {b : Int} {h : Int} {pl : Addr} {c : Bool} : (F_Giver b h pl c).lookup ("behind" : Str) = some (V.int h) := by kernel_rfl
theorem lk_Giver_pieces {b : Int} {h : Int} {pl : Addr} {c : Bool} : (F_Giver b h pl c).lookup ("pieces" : Str) = some (V.ref pl) := by kernel_rfl
theorem lk_Giver_closed {b : Int} {h : Int} {pl : Addr} {c : Bool} : (F_Giver b h pl c).lookup ("closed" : Str) = some (V.bl c) := by kernel_rfl
theorem nk_Giver_put {b : Int} {h : Int} {pl : Addr} {c : Bool} : (F_Giver b h pl c).lookup ("put" : Str) = none := by kernel_rfl
theorem nk_Giver_has_room {b : Int} {h : Int} {pl : Addr} {c : Bool} : (F_Giver b h pl c).lookup ("has_room" : Str) = none := by kernel_rfl
theorem nk_Giver_shut {b : Int} {h : Int} {pl : Addr} {c : Bool} : (F_Giver b h pl c).lookup ("shut" : Str) = none := by kernel_rfl
theorem nk_Giver_heard {b : Int} {h : Int} {pl : Addr} {c : Bool} : (F_Giver b h pl c).lookup ("heard" : Str) = none := by kernel_rfl
theorem nk_Giver_wanted {b : Int} {h : Int} {pl : Addr} {c : Bool} : (F_Giver b h pl c).lookup ("wanted" : Str) = none := by kernel_rfl
theorem nk_Giver_many {b : Int} {h : Int} {pl : Addr} {c : Bool} : (F_Giver b h pl c).lookup ("many" : Str) = none := by kernel_rfl
theorem nk_Giver_is_shut {b : Int} {h : Int} {pl : Addr} {c : Bool} : (F_Giver b h pl c).lookup ("is_shut" : Str) = none := by kernel_rfl
theorem pt_Giver_below {b : Int} {h : Int} {pl : Addr} {c : Bool} {z9 : Int} : putF ("below" : Str) (V.int z9) (F_Giver b h pl c) = F_Giver z9 h pl c := by kernel_rfl
theorem pt_Giver_behind {b : Int} {h : Int} {pl : Addr} {c : Bool} {z9 : Int} : putF ("behind" : Str) (V.int z9) (F_Giver b h pl c) = F_Giver b z9 pl c := by kernel_rfl
theorem pt_Giver_pieces {b : Int} {h : Int} {pl : Addr} {c : Bool} {z9 : Addr} : putF ("pieces" : Str) (V.ref z9) (F_Giver b h pl c) = F_Giver b h z9 c := by kernel_rfl
theorem pt_Giver_closed {b : Int} {h : Int} {pl : Addr} {c : Bool} {z9 : Bool} : putF ("closed" : Str) (V.bl z9) (F_Giver b h pl c) = F_Giver b h pl z9 := by kernel_rfl
theorem pi_Giver_1 {z9 : V} : putF ("below" : Str) z9 [] = [(("below" : Str), z9)] := by kernel_rfl
theorem pi_Giver_2 {y0 : V} {z9 : V} : putF ("behind" : Str) z9 [(("below" : Str), y0)] = [(("below" : Str), y0), (("behind" : Str), z9)] := by kernel_rfl
theorem pi_Giver_3 {y0 : V} {y1 : V} {z9 : V} : putF ("pieces" : Str) z9 [(("below" : Str), y0), (("behind" : Str), y1)] = [(("below" : Str), y0), (("behind" : Str), y1), (("pieces" : Str), z9)] := by kernel_rfl
theorem pi_Giver_4 {b : Int} {h : Int} {pl : Addr} {c : Bool} : putF ("closed" : Str) (V.bl c) [(("below" : Str), V.int b), (("behind" : Str), V.int h), (("pieces" : Str), V.ref pl)] = F_Giver b h pl c := by kernel_rfl
structure GvCls (K : PySem.W.Frag) (C : Addr) : Prop where
  c_Giver : Cls K C
  na_Giver_below : NoAttr K C "below"
  na_Giver_behind : NoAttr K C "behind"
  na_Giver_pieces : NoAttr K C "pieces"
  na_Giver_closed : NoAttr K C "closed"

def spGvInit (C : Addr) : Sp := fun vs H Q _ => ∃ (p dx : Addr) (w : Int), vs = [.ref p, .int w] ∧ H p = some (.ins C dx []) ∧ ∀ (l : Addr) (H' : Hp), H l = none → H' p = some (.ins C dx (F_Giver w 0 l false)) → H' l = some (.lst []) → (∀ b o, H b = some o → b ≠ p → H' b = some o) → Q .non H'
theorem c_mkGiver {C : Addr} {w : Int} {H0 H : Hp} {ft : List Addr} {l : List Cell} {Q : VK} {E : XK} (S : Sep H0 ft H l) (k : ∀ x dx d H', Sep H0 ft H' ((2, d, .lst []) :: (2, x, .ins C dx (F_Giver w 0 d false)) :: l) → Q (.ref x) H') :
    rMkK C 0 1 (spGvInit C) (fun vs zs => vs ++ zs) E [] [V.int w] H Q := by
  refine ⟨rfl, rfl, fun x dx hx hd n => ⟨x, dx, w, rfl, upd_same, fun d H' nd e1 e2 F => ⟨rfl, ?_⟩⟩⟩
  have S1 := S.made (C := C) hx hd n
  have S2 := S1.chg1 0 rfl F e1
  exact k x dx d H' (S1.got S2 rfl nd e2)
def spMany (C : Addr) : Sp := fun vs H Q _ => ∃ (p dx pl : Addr) (b h : Int) (c : Bool) (xs : List V), vs = [.ref p] ∧ H p = some (.ins C dx (F_Giver b h pl c)) ∧ H pl = some (.lst xs) ∧ Q (.int (h + xs.length)) H
theorem c_many {C : Addr} {H0 H : Hp} {ft : List Addr} {l : List Cell} {t1 t2 : Nat} {p dx pl : Addr} {b h : Int} {c : Bool} {xs : List V} {Q : VK} {E : XK} (S : Sep H0 ft H l) (n m : Nat) (e1 : l[n]? = some (t1, p, .ins C dx (F_Giver b h pl c))) (e2 : l[m]? = some (t2, pl, .lst xs))
    (k : Q (.int (h + xs.length)) H) : spMany C [.ref p] H Q E := ⟨p, dx, pl, b, h, c, xs, rfl, S.get n e1, S.get m e2, k⟩
def spHeard (C : Addr) : Sp := fun vs H Q _ => ∃ (p dx pl : Addr) (b h g r : Int) (c : Bool) (xs : List V), vs = [.ref p, .int g, .int r] ∧ H p = some (.ins C dx (F_Giver b h pl c)) ∧ H pl = some (.lst xs) ∧
  ∀ (pl' : Addr) (H' : Hp), H pl' = none → H' p = some (.ins C dx (F_Giver (max b r) (h + max (g - h) 0) pl' c)) → H' pl' = some (.lst (xs.drop (g - h).toNat)) → (∀ b o, H b = some o → b ≠ p → H' b = some o) → Q .non H'
theorem c_heard {C : Addr} {H0 H : Hp} {ft : List Addr} {l : List Cell} {t1 t2 : Nat} {p dx pl : Addr} {b h g r : Int} {c : Bool} {xs : List V} {Q : VK} {E : XK} (S : Sep H0 ft H l) (n m : Nat) (e1 : l[n]? = some (t1, p, .ins C dx (F_Giver b h pl c))) (e2 : l[m]? = some (t2, pl, .lst xs))
    (k : ∀ pl' H', Sep H0 ft H' ((2, pl', .lst (xs.drop (g - h).toNat)) :: l.set n (t1, p, .ins C dx (F_Giver (max b r) (h + max (g - h) 0) pl' c))) → Q .non H') (ht : t1 = 1 ∨ t1 = 2 := by first | exact .inl rfl | exact .inr rfl) : spHeard C [.ref p, .int g, .int r] H Q E :=
  ⟨p, dx, pl, b, h, g, r, c, xs, rfl, S.get n e1, S.get m e2, fun pl' H' hn e1' e2' F => k pl' H' (S.got (S.chg1 n e1 F e1' ht) (map_set e1) hn e2')⟩

def spShut0 (C : Addr) : Sp := fun vs H Q _ => ∃ (p dx pl : Addr) (b h : Int), vs = [.ref p] ∧ H p = some (.ins C dx (F_Giver b h pl false)) ∧ ∀ H' : Hp, H' p = some (.ins C dx (F_Giver b h pl true)) → (∀ b o, H b = some o → b ≠ p → H' b = some o) → Q .non H'
theorem c_shut0 {C : Addr} {H0 H : Hp} {ft : List Addr} {l : List Cell} {t1 : Nat} {p dx pl : Addr} {b h : Int} {Q : VK} {E : XK} (S : Sep H0 ft H l) (n : Nat) (e1 : l[n]? = some (t1, p, .ins C dx (F_Giver b h pl false)))
    (k : ∀ H', Sep H0 ft H' (l.set n (t1, p, .ins C dx (F_Giver b h pl true))) → Q .non H') (ht : t1 = 1 ∨ t1 = 2 := by first | exact .inl rfl | exact .inr rfl) : spShut0 C [.ref p] H Q E := ⟨p, dx, pl, b, h, rfl, S.get n e1, fun H' e F => k H' (S.chg1 n e1 F e ht)⟩
def spPut0 (C : Addr) : Sp := fun vs H Q _ => ∃ (p dx pl : Addr) (b h : Int) (xs : List V) (v : V), vs = [.ref p, v] ∧ H p = some (.ins C dx (F_Giver b h pl false)) ∧ H pl = some (.lst xs) ∧ h + xs.length < b ∧ xs.length < 100000 ∧
  ∀ H' : Hp, H' pl = some (.lst (xs ++ [v])) → (∀ b o, H b = some o → b ≠ pl → H' b = some o) → Q .non H'
theorem c_put0 {C : Addr} {H0 H : Hp} {ft : List Addr} {l : List Cell} {t1 t2 : Nat} {p dx pl : Addr} {b h : Int} {xs : List V} {v : V} {Q : VK} {E : XK} (S : Sep H0 ft H l) (n m : Nat) (e1 : l[n]? = some (t1, p, .ins C dx (F_Giver b h pl false))) (e2 : l[m]? = some (t2, pl, .lst xs)) (hb : h + xs.length < b) (hl : xs.length < 100000)
    (k : ∀ H', Sep H0 ft H' (l.set m (t2, pl, .lst (xs ++ [v]))) → Q .non H') (ht : t2 = 1 ∨ t2 = 2 := by first | exact .inl rfl | exact .inr rfl) : spPut0 C [.ref p, v] H Q E := ⟨p, dx, pl, b, h, xs, v, rfl, S.get n e1, S.get m e2, hb, hl, fun H' e F => k H' (S.chg1 m e2 F e ht)⟩
section
variable {P : Program} {w : World} {K : PySem.W.Frag} {mg : Str → Option Value} {base : Heap}
abbrev s_Giver__init : Stmt := (inClass (topS 7) 0)
theorem sc_Giver__init : FnScope ["self", "window"] ["self", "window"] (defScope s_Giver__init) := ⟨rfl, rfl, rfl, by decide +kernel, rfl, by decide +kernel, by decide +kernel⟩
theorem ok_Giver__init {f : Addr} {fd : FuncData} {C : Addr} (F : L2.Fun K "__init__" "Giver.__init__" s_Giver__init f fd) (T : GvCls K C) : FnOk P w K mg base CX0 1 f fd ["self", "window"] (spGvInit C) := by
  refine F.ok sc_Giver__init (fun vs H Q E h => ?_) (fun cdv A outer s H0 vs Q E hr h => ?_)
  · obtain ⟨p, dx, w, rfl, hp, k⟩ := h
    rfl
  · obtain ⟨p, dx, w, rfl, hp, k⟩ := h
    have hu := hu_of hr
    have S := Sep.of1 hp
    refine ⟨_, pss_cons (ps_fld1 (pv 0) (pv 1) rfl)
      (pss_cons (ps_fld1 (pv 0) (pe_int) rfl)
      (pss_cons (ps_fld1 (pv 0) (pe_lst1 pa_nil) rfl)
      (pss_one (ps_fld1 (pv 0) (pe_bl) rfl)))), ?_⟩
    rw [show start ["self", "window"] [V.ref p, V.int w] = [some (V.ref p), some (V.int w)] from rfl]
    try dsimp only [tSeq, tAsg, gName, tOp, tUn, tCB, tCons, tNil, tCall, tMethK1, tCallK1, tPar3, tRet, tRetN, tDrop, tTest, tB, tC, tNext, tAugS, tAug, sFld1, sFldAug1, tMeth1, tMake, tMakeK1, tSl, tPart, tNoPart, sDPut1, tDPop, tBM, tBM0, tPar, gSub, tChain, tNot, tNotV, tDG1, tDG2, tDNewT1, iKeys1, iEnum1, iList1, iTup1, iRng1, iRng2, List.set_cons_zero, List.set_cons_succ]
    refine x_var (by exact rfl) ?_
    refine x_var (by exact rfl) ?_
    refine x_sfld S 0 (by exact rfl) T.c_Giver T.na_Giver_below pi_Giver_1 (by exact Nat.le_of_ble_eq_true rfl) (fun H S => ?_)
    simp only [List.set_cons_zero, List.set_cons_succ] at S
    try dsimp only [tSeq, tAsg, gName, tOp, tUn, tCB, tCons, tNil, tCall, tMethK1, tCallK1, tPar3, tRet, tRetN, tDrop, tTest, tB, tC, tNext, tAugS, tAug, sFld1, sFldAug1, tMeth1, tMake, tMakeK1, tSl, tPart, tNoPart, sDPut1, tDPop, tBM, tBM0, tPar, gSub, tChain, tNot, tNotV, tDG1, tDG2, tDNewT1, iKeys1, iEnum1, iList1, iTup1, iRng1, iRng2, List.set_cons_zero, List.set_cons_succ]
    refine x_var (by exact rfl) ?_
    refine x_sfld S 0 (by exact rfl) T.c_Giver T.na_Giver_behind pi_Giver_2 (by exact Nat.le_of_ble_eq_true rfl) (fun H S => ?_)
    simp only [List.set_cons_zero, List.set_cons_succ] at S
    try dsimp only [tSeq, tAsg, gName, tOp, tUn, tCB, tCons, tNil, tCall, tMethK1, tCallK1, tPar3, tRet, tRetN, tDrop, tTest, tB, tC, tNext, tAugS, tAug, sFld1, sFldAug1, tMeth1, tMake, tMakeK1, tSl, tPart, tNoPart, sDPut1, tDPop, tBM, tBM0, tPar, gSub, tChain, tNot, tNotV, tDG1, tDG2, tDNewT1, iKeys1, iEnum1, iList1, iTup1, iRng1, iRng2, List.set_cons_zero, List.set_cons_succ]
    refine x_lst S (by exact Nat.le_of_ble_eq_true rfl) (fun L1 H S => ?_)
    refine x_var (by exact rfl) ?_
    refine x_sfld S 1 (by exact rfl) T.c_Giver T.na_Giver_pieces pi_Giver_3 (by exact Nat.le_of_ble_eq_true rfl) (fun H S => ?_)
    simp only [List.set_cons_zero, List.set_cons_succ] at S
    try dsimp only [tSeq, tAsg, gName, tOp, tUn, tCB, tCons, tNil, tCall, tMethK1, tCallK1, tPar3, tRet, tRetN, tDrop, tTest, tB, tC, tNext, tAugS, tAug, sFld1, sFldAug1, tMeth1, tMake, tMakeK1, tSl, tPart, tNoPart, sDPut1, tDPop, tBM, tBM0, tPar, gSub, tChain, tNot, tNotV, tDG1, tDG2, tDNewT1, iKeys1, iEnum1, iList1, iTup1, iRng1, iRng2, List.set_cons_zero, List.set_cons_succ]
    refine x_var (by exact rfl) ?_
    refine x_sfld S 1 (by exact rfl) T.c_Giver T.na_Giver_closed pi_Giver_4 (by exact Nat.le_of_ble_eq_true rfl) (fun H S => ?_)
    simp only [List.set_cons_zero, List.set_cons_succ] at S
    exact k _ _ (S.new_none 0 rfl) (S.get 1 rfl) (S.get 0 rfl) S.out1
abbrev s_Giver_many : Stmt := (inClass (topS 7) 6)
theorem sc_Giver_many : FnScope ["self"] ["self"] (defScope s_Giver_many) := ⟨rfl, rfl, rfl, by decide +kernel, rfl, by decide +kernel, by decide +kernel⟩
theorem ok_Giver_many {f : Addr} {fd : FuncData} {C : Addr} (F : L2.Fun K "many" "Giver.many" s_Giver_many f fd) (T : GvCls K C) (z_len : mg "len" = none) : FnOk P w K mg base CX0 1 f fd ["self"] (spMany C) := by
  refine F.ok sc_Giver_many (fun vs H Q E h => ?_) (fun cdv A outer s H0 vs Q E hr h => ?_)
  · obtain ⟨p, dx, pl, b, h, c, xs, rfl, hp, hd, k⟩ := h
    rfl
  · obtain ⟨p, dx, pl, b, h, c, xs, rfl, hp, hd, k⟩ := h
    have hu := hu_of hr
    have S : Sep H0 [] H0 [(0, p, .ins C dx (F_Giver b h pl c)), (0, pl, .lst xs)] := (Sep.of0.add 0 hd (fun _ z => nomatch z) (fun z => by cases z) (fun z => by cases z)).add 0 hp (fun c hc z => by rw [List.mem_singleton.mp hc] at z; exact ne_of hd hp (by intro z; cases z) z) (fun z => by cases z) (fun z => by cases z)
    refine ⟨_, pss_one (ps_ret (pe_op op_add (pe_fldK K (pv 0)) (pe_callB (cl_lenK K) (by rfl) z_len PySem.boot_len (pa_cons (pe_fldK K (pv 0)) pa_nil)))), ?_⟩
    rw [show start ["self"] [V.ref p] = [some (V.ref p)] from rfl]
    try dsimp only [tSeq, tAsg, gName, tOp, tUn, tCB, tCons, tNil, tCall, tMethK1, tCallK1, tPar3, tRet, tRetN, tDrop, tTest, tB, tC, tNext, tAugS, tAug, sFld1, sFldAug1, tMeth1, tMake, tMakeK1, tSl, tPart, tNoPart, sDPut1, tDPop, tBM, tBM0, tPar, gSub, tChain, tNot, tNotV, tDG1, tDG2, tDNewT1, iKeys1, iEnum1, iList1, iTup1, iRng1, iRng2, List.set_cons_zero, List.set_cons_succ]
    refine x_var (by exact rfl) ?_
    refine x_fld S 0 (by exact rfl) T.c_Giver T.na_Giver_behind lk_Giver_behind ?_
    refine x_var (by exact rfl) ?_
    refine x_fld S 0 (by exact rfl) T.c_Giver T.na_Giver_pieces lk_Giver_pieces ?_
    refine x_len S 1 (by exact rfl) ?_
    refine x_I0 ?_
    exact k
abbrev s_Giver_heard : Stmt := (inClass (topS 7) 4)
theorem sc_Giver_heard : FnScope ["self", "got", "room", "less"] ["self", "got", "room"] (defScope s_Giver_heard) := ⟨rfl, rfl, rfl, by decide +kernel, rfl, by decide +kernel, by decide +kernel⟩
theorem ok_Giver_heard {f : Addr} {fd : FuncData} {C : Addr} (F : L2.Fun K "heard" "Giver.heard" s_Giver_heard f fd) (T : GvCls K C) (z_max : mg "max" = none) : FnOk P w K mg base CX0 1 f fd ["self", "got", "room"] (spHeard C) := by
  refine F.ok sc_Giver_heard (fun vs H Q E h => ?_) (fun cdv A outer s H0 vs Q E hr h => ?_)
  · obtain ⟨p, dx, pl, b, h, g, r, c, xs, rfl, hp, hd, k⟩ := h
    rfl
  · obtain ⟨p, dx, pl, b, h, g, r, c, xs, rfl, hp, hd, k⟩ := h
    have hu := hu_of hr
    have S : Sep H0 [p] H0 [(1, p, .ins C dx (F_Giver b h pl c)), (0, pl, .lst xs)] := ((Sep.of1 hp).add 0 hd (fun c hc z => by rw [List.mem_singleton.mp hc] at z; exact ne_of hp hd (by intro z; cases z) z) (fun z => by cases z) (fun z => by cases z)).sub [1, 0]
    refine ⟨_, pss_cons (ps_set (i := 3) sc_Giver_heard.nd rfl (.inl rfl) (pe_callB (cl_max rfl) (by rfl) z_max (by decide +kernel) (pa_cons (pe_op op_sub (pv 1) (pe_fldK K (pv 0))) (pa_cons (pe_int) pa_nil))))
      (pss_cons (ps_fld1 (pv 0) (pe_slice (sl_listK K) (pe_fldK K (pv 0)) (po_some (pv 3)) (po_none)) rfl)
      (pss_cons (ps_fldaug1 (pv 0) (pv 3) in_add)
      (pss_one (ps_fld1 (pv 0) (pe_callB (cl_max rfl) (by rfl) z_max (by decide +kernel) (pa_cons (pe_fldK K (pv 0)) (pa_cons (pv 2) pa_nil))) rfl)))), ?_⟩
    rw [show start ["self", "got", "room", "less"] [V.ref p, V.int g, V.int r] = [some (V.ref p), some (V.int g), some (V.int r), none] from rfl]
    try dsimp only [tSeq, tAsg, gName, tOp, tUn, tCB, tCons, tNil, tCall, tMethK1, tCallK1, tPar3, tRet, tRetN, tDrop, tTest, tB, tC, tNext, tAugS, tAug, sFld1, sFldAug1, tMeth1, tMake, tMakeK1, tSl, tPart, tNoPart, sDPut1, tDPop, tBM, tBM0, tPar, gSub, tChain, tNot, tNotV, tDG1, tDG2, tDNewT1, iKeys1, iEnum1, iList1, iTup1, iRng1, iRng2, List.set_cons_zero, List.set_cons_succ]
    refine x_var (by exact rfl) ?_
    refine x_var (by exact rfl) ?_
    refine x_fld S 0 (by exact rfl) T.c_Giver T.na_Giver_behind lk_Giver_behind ?_
    refine x_I0 ?_
    refine x_max ?_
    try dsimp only [tSeq, tAsg, gName, tOp, tUn, tCB, tCons, tNil, tCall, tMethK1, tCallK1, tPar3, tRet, tRetN, tDrop, tTest, tB, tC, tNext, tAugS, tAug, sFld1, sFldAug1, tMeth1, tMake, tMakeK1, tSl, tPart, tNoPart, sDPut1, tDPop, tBM, tBM0, tPar, gSub, tChain, tNot, tNotV, tDG1, tDG2, tDNewT1, iKeys1, iEnum1, iList1, iTup1, iRng1, iRng2, List.set_cons_zero, List.set_cons_succ]
    refine x_var (by exact rfl) ?_
    refine x_fld S 0 (by exact rfl) T.c_Giver T.na_Giver_pieces lk_Giver_pieces ?_
    refine x_var (by exact rfl) ?_
    refine ⟨_, rfl, ?_⟩
    refine x_slL S 1 (by exact rfl) (fun sl1 H S => ?_)
    refine x_var (by exact rfl) ?_
    refine x_sfld S 1 (by exact rfl) T.c_Giver T.na_Giver_pieces pt_Giver_pieces (by exact Nat.le_of_ble_eq_true rfl) (fun H S => ?_)
    simp only [List.set_cons_zero, List.set_cons_succ] at S
    try dsimp only [tSeq, tAsg, gName, tOp, tUn, tCB, tCons, tNil, tCall, tMethK1, tCallK1, tPar3, tRet, tRetN, tDrop, tTest, tB, tC, tNext, tAugS, tAug, sFld1, sFldAug1, tMeth1, tMake, tMakeK1, tSl, tPart, tNoPart, sDPut1, tDPop, tBM, tBM0, tPar, gSub, tChain, tNot, tNotV, tDG1, tDG2, tDNewT1, iKeys1, iEnum1, iList1, iTup1, iRng1, iRng2, List.set_cons_zero, List.set_cons_succ]
    refine x_var (by exact rfl) ?_
    refine x_fldA S 1 (by exact rfl) T.c_Giver T.na_Giver_behind lk_Giver_behind ?_
    refine x_var (by exact rfl) ?_
    refine x_add ?_
    refine x_augf S 1 (by exact rfl) pt_Giver_behind (by exact Nat.le_of_ble_eq_true rfl) (fun H S => ?_)
    simp only [List.set_cons_zero, List.set_cons_succ] at S
    try dsimp only [tSeq, tAsg, gName, tOp, tUn, tCB, tCons, tNil, tCall, tMethK1, tCallK1, tPar3, tRet, tRetN, tDrop, tTest, tB, tC, tNext, tAugS, tAug, sFld1, sFldAug1, tMeth1, tMake, tMakeK1, tSl, tPart, tNoPart, sDPut1, tDPop, tBM, tBM0, tPar, gSub, tChain, tNot, tNotV, tDG1, tDG2, tDNewT1, iKeys1, iEnum1, iList1, iTup1, iRng1, iRng2, List.set_cons_zero, List.set_cons_succ]
    refine x_var (by exact rfl) ?_
    refine x_fld S 1 (by exact rfl) T.c_Giver T.na_Giver_below lk_Giver_below ?_
    refine x_var (by exact rfl) ?_
    refine x_max ?_
    refine x_var (by exact rfl) ?_
    refine x_sfld S 1 (by exact rfl) T.c_Giver T.na_Giver_below pt_Giver_below (by exact Nat.le_of_ble_eq_true rfl) (fun H S => ?_)
    simp only [List.set_cons_zero, List.set_cons_succ] at S
    rw [cutV_from (by omega), show (max (g - h) 0).toNat = (g - h).toNat by omega] at S
    exact k _ _ (S.new_none 0 rfl) (S.get 1 rfl) (S.get 0 rfl) S.out1
abbrev s_Giver_shut : Stmt := (inClass (topS 7) 3)
theorem sc_Giver_shut : FnScope ["self"] ["self"] (defScope s_Giver_shut) := ⟨rfl, rfl, rfl, by decide +kernel, rfl, by decide +kernel, by decide +kernel⟩
theorem ok_Giver_shut {f : Addr} {fd : FuncData} {C : Addr} (F : L2.Fun K "shut" "Giver.shut" s_Giver_shut f fd) (T : GvCls K C) : FnOk P w K mg base CX0 1 f fd ["self"] (spShut0 C) := by
  refine F.ok sc_Giver_shut (fun vs H Q E h => ?_) (fun cdv A outer s H0 vs Q E hr h => ?_)
  · obtain ⟨p, dx, pl, b, h, rfl, hp, k⟩ := h
    rfl
  · obtain ⟨p, dx, pl, b, h, rfl, hp, k⟩ := h
    have hu := hu_of hr
    have S := Sep.of1 hp
    refine ⟨_, pss_cons (ps_if (pt_val (pe_fldK K (pv 0))) (pss_one (ps_never)) (pss_nil))
      (pss_one (ps_fld1 (pv 0) (pe_bl) rfl)), ?_⟩
    rw [show start ["self"] [V.ref p] = [some (V.ref p)] from rfl]
    try dsimp only [tSeq, tAsg, gName, tOp, tUn, tCB, tCons, tNil, tCall, tMethK1, tCallK1, tPar3, tRet, tRetN, tDrop, tTest, tB, tC, tNext, tAugS, tAug, sFld1, sFldAug1, tMeth1, tMake, tMakeK1, tSl, tPart, tNoPart, sDPut1, tDPop, tBM, tBM0, tPar, gSub, tChain, tNot, tNotV, tDG1, tDG2, tDNewT1, iKeys1, iEnum1, iList1, iTup1, iRng1, iRng2, List.set_cons_zero, List.set_cons_succ]
    refine x_if ?_
    try dsimp only [tSeq, tAsg, gName, tOp, tUn, tCB, tCons, tNil, tCall, tMethK1, tCallK1, tPar3, tRet, tRetN, tDrop, tTest, tB, tC, tNext, tAugS, tAug, sFld1, sFldAug1, tMeth1, tMake, tMakeK1, tSl, tPart, tNoPart, sDPut1, tDPop, tBM, tBM0, tPar, gSub, tChain, tNot, tNotV, tDG1, tDG2, tDNewT1, iKeys1, iEnum1, iList1, iTup1, iRng1, iRng2, List.set_cons_zero, List.set_cons_succ]
    refine x_var (by exact rfl) ?_
    refine x_fld S 0 (by exact rfl) T.c_Giver T.na_Giver_closed lk_Giver_closed ?_
    refine ⟨_, rfl, ?_⟩
    refine iteb (fun c1 => ?_) (fun c1 => ?_)
    · try dsimp only [tSeq, tAsg, gName, tOp, tUn, tCB, tCons, tNil, tCall, tMethK1, tCallK1, tPar3, tRet, tRetN, tDrop, tTest, tB, tC, tNext, tAugS, tAug, sFld1, sFldAug1, tMeth1, tMake, tMakeK1, tSl, tPart, tNoPart, sDPut1, tDPop, tBM, tBM0, tPar, gSub, tChain, tNot, tNotV, tDG1, tDG2, tDNewT1, iKeys1, iEnum1, iList1, iTup1, iRng1, iRng2, List.set_cons_zero, List.set_cons_succ]
      exact absurd c1 (by decide)
    · try dsimp only [tSeq, tAsg, gName, tOp, tUn, tCB, tCons, tNil, tCall, tMethK1, tCallK1, tPar3, tRet, tRetN, tDrop, tTest, tB, tC, tNext, tAugS, tAug, sFld1, sFldAug1, tMeth1, tMake, tMakeK1, tSl, tPart, tNoPart, sDPut1, tDPop, tBM, tBM0, tPar, gSub, tChain, tNot, tNotV, tDG1, tDG2, tDNewT1, iKeys1, iEnum1, iList1, iTup1, iRng1, iRng2, List.set_cons_zero, List.set_cons_succ]
      refine x_var (by exact rfl) ?_
      refine x_sfld S 0 (by exact rfl) T.c_Giver T.na_Giver_closed pt_Giver_closed (by exact Nat.le_of_ble_eq_true rfl) (fun H S => ?_)
      simp only [List.set_cons_zero, List.set_cons_succ] at S
      exact k _ (S.get 0 rfl) S.out1
abbrev s_Giver_put : Stmt := (inClass (topS 7) 1)
theorem sc_Giver_put : FnScope ["self", "value"] ["self", "value"] (defScope s_Giver_put) := ⟨rfl, rfl, rfl, by decide +kernel, rfl, by decide +kernel, by decide +kernel⟩
theorem ok_Giver_put {f : Addr} {fd : FuncData} {C : Addr} (F : L2.Fun K "put" "Giver.put" s_Giver_put f fd) (T : GvCls K C) (mmany : Met P w K mg base CX0 1 C "many" (spMany C)) : FnOk P w K mg base CX0 2 f fd ["self", "value"] (spPut0 C) := by
  refine F.ok sc_Giver_put (fun vs H Q E h => ?_) (fun cdv A outer s H0 vs Q E hr h => ?_)
  · obtain ⟨p, dx, pl, b, h, xs, v, rfl, hp, hd, hb, hl, k⟩ := h
    rfl
  · obtain ⟨p, dx, pl, b, h, xs, v, rfl, hp, hd, hb, hl, k⟩ := h
    have hu := hu_of hr
    have S : Sep H0 [pl] H0 [(0, p, .ins C dx (F_Giver b h pl false)), (1, pl, .lst xs)] := (Sep.of1 hd).add 0 hp (fun c hc z => by rw [List.mem_singleton.mp hc] at z; exact ne_of hd hp (by intro z; cases z) z) (fun z => by cases z) (fun z => by cases z)
    refine ⟨_, pss_cons (ps_if (pt_val (pe_fldK K (pv 0))) (pss_one (ps_never)) (pss_nil))
      (pss_cons (ps_if (pt_cmpR op_ge (pe_mt0 mmany hr (by decide) pass0 (pv 0)) (pe_fldK K (pv 0)) (nomark _)) (pss_one (ps_never)) (pss_nil))
      (pss_one (ps_expr (pe_bm PySem.F.plainAttrs_list PySem.F.slot_list_append PySem.F.type_list_append mt_append (pe_fldK K (pv 0)) (pa_cons (pv 1) pa_nil))))), ?_⟩
    rw [show start ["self", "value"] [V.ref p, v] = [some (V.ref p), some (v)] from rfl]
    try dsimp only [tSeq, tAsg, gName, tOp, tUn, tCB, tCons, tNil, tCall, tMethK1, tCallK1, tPar3, tRet, tRetN, tDrop, tTest, tB, tC, tNext, tAugS, tAug, sFld1, sFldAug1, tMeth1, tMake, tMakeK1, tSl, tPart, tNoPart, sDPut1, tDPop, tBM, tBM0, tPar, gSub, tChain, tNot, tNotV, tDG1, tDG2, tDNewT1, iKeys1, iEnum1, iList1, iTup1, iRng1, iRng2, List.set_cons_zero, List.set_cons_succ]
    refine x_if ?_
    try dsimp only [tSeq, tAsg, gName, tOp, tUn, tCB, tCons, tNil, tCall, tMethK1, tCallK1, tPar3, tRet, tRetN, tDrop, tTest, tB, tC, tNext, tAugS, tAug, sFld1, sFldAug1, tMeth1, tMake, tMakeK1, tSl, tPart, tNoPart, sDPut1, tDPop, tBM, tBM0, tPar, gSub, tChain, tNot, tNotV, tDG1, tDG2, tDNewT1, iKeys1, iEnum1, iList1, iTup1, iRng1, iRng2, List.set_cons_zero, List.set_cons_succ]
    refine x_var (by exact rfl) ?_
    refine x_fld S 0 (by exact rfl) T.c_Giver T.na_Giver_closed lk_Giver_closed ?_
    refine ⟨_, rfl, ?_⟩
    refine iteb (fun c1 => ?_) (fun c1 => ?_)
    · try dsimp only [tSeq, tAsg, gName, tOp, tUn, tCB, tCons, tNil, tCall, tMethK1, tCallK1, tPar3, tRet, tRetN, tDrop, tTest, tB, tC, tNext, tAugS, tAug, sFld1, sFldAug1, tMeth1, tMake, tMakeK1, tSl, tPart, tNoPart, sDPut1, tDPop, tBM, tBM0, tPar, gSub, tChain, tNot, tNotV, tDG1, tDG2, tDNewT1, iKeys1, iEnum1, iList1, iTup1, iRng1, iRng2, List.set_cons_zero, List.set_cons_succ]
      exact absurd c1 (by decide)
    · try dsimp only [tSeq, tAsg, gName, tOp, tUn, tCB, tCons, tNil, tCall, tMethK1, tCallK1, tPar3, tRet, tRetN, tDrop, tTest, tB, tC, tNext, tAugS, tAug, sFld1, sFldAug1, tMeth1, tMake, tMakeK1, tSl, tPart, tNoPart, sDPut1, tDPop, tBM, tBM0, tPar, gSub, tChain, tNot, tNotV, tDG1, tDG2, tDNewT1, iKeys1, iEnum1, iList1, iTup1, iRng1, iRng2, List.set_cons_zero, List.set_cons_succ]
      refine x_if ?_
      try dsimp only [tSeq, tAsg, gName, tOp, tUn, tCB, tCons, tNil, tCall, tMethK1, tCallK1, tPar3, tRet, tRetN, tDrop, tTest, tB, tC, tNext, tAugS, tAug, sFld1, sFldAug1, tMeth1, tMake, tMakeK1, tSl, tPart, tNoPart, sDPut1, tDPop, tBM, tBM0, tPar, gSub, tChain, tNot, tNotV, tDG1, tDG2, tDNewT1, iKeys1, iEnum1, iList1, iTup1, iRng1, iRng2, List.set_cons_zero, List.set_cons_succ]
      refine x_var (by exact rfl) ?_
      refine x_meth S 0 (by exact rfl) nk_Giver_many ?_
      refine c_many S 0 1 (by exact rfl) (by exact rfl) ?_
      refine x_var (by exact rfl) ?_
      refine x_fld S 0 (by exact rfl) T.c_Giver T.na_Giver_below lk_Giver_below ?_
      refine x_I0 ?_
      refine ⟨_, rfl, ?_⟩
      refine ited (fun c2 => ?_) (fun c2 => ?_)
      · try dsimp only [tSeq, tAsg, gName, tOp, tUn, tCB, tCons, tNil, tCall, tMethK1, tCallK1, tPar3, tRet, tRetN, tDrop, tTest, tB, tC, tNext, tAugS, tAug, sFld1, sFldAug1, tMeth1, tMake, tMakeK1, tSl, tPart, tNoPart, sDPut1, tDPop, tBM, tBM0, tPar, gSub, tChain, tNot, tNotV, tDG1, tDG2, tDNewT1, iKeys1, iEnum1, iList1, iTup1, iRng1, iRng2, List.set_cons_zero, List.set_cons_succ]
        exact absurd c2 (by omega)
      · try dsimp only [tSeq, tAsg, gName, tOp, tUn, tCB, tCons, tNil, tCall, tMethK1, tCallK1, tPar3, tRet, tRetN, tDrop, tTest, tB, tC, tNext, tAugS, tAug, sFld1, sFldAug1, tMeth1, tMake, tMakeK1, tSl, tPart, tNoPart, sDPut1, tDPop, tBM, tBM0, tPar, gSub, tChain, tNot, tNotV, tDG1, tDG2, tDNewT1, iKeys1, iEnum1, iList1, iTup1, iRng1, iRng2, List.set_cons_zero, List.set_cons_succ]
        refine x_var (by exact rfl) ?_
        refine x_fld S 0 (by exact rfl) T.c_Giver T.na_Giver_pieces lk_Giver_pieces ?_
        refine ⟨x_ty S 1 (by exact rfl), ?_⟩
        refine x_var (by exact rfl) ?_
        refine x_app S 1 (by exact rfl) (by first | omega | decide | (simp only [len_insAt, List.length_map, List.length_append, List.length_cons, List.length_nil, List.length_take, List.length_drop] at *; omega)) (fun H S => ?_)
        simp only [List.set_cons_zero, List.set_cons_succ] at S
        exact k _ (S.get 1 rfl) S.out1
end
end G

set_option linter.all false
set_option maxRecDepth 100000
set_option maxHeartbeats 4000000
namespace G
open PySem PySem.Spec PyProof.Rows L2
/-! ### takers -/
def F_Taker (w t : Int) (d : Addr) (e : V) : List (Str × V) := [(("wide" : Str), V.int w), (("taken" : Str), V.int t), (("kept" : Str), V.ref d), (("end" : Str), e)]
theorem lk_Taker_wide {w t : Int} {d : Addr} {e : V} : (F_Taker w t d e).lookup ("wide" : Str) = some (V.int w) := by kernel_rfl
theorem lk_Taker_taken {w t : Int} {d : Addr} {e : V} : (F_Taker w t d e).lookup ("taken" : Str) = some (V.int t) := by kernel_rfl
theorem lk_Taker_kept {w t : Int} {d : Addr} {e : V} : (F_Taker w t d e).lookup ("kept" : Str) = some (V.ref d) := by kernel_rfl
theorem lk_Taker_end {w t : Int} {d : Addr} {e : V} : (F_Taker w t d e).lookup ("end" : Str) = some (e) := by kernel_rfl
theorem nk_Taker_came {w t : Int} {d : Addr} {e : V} : (F_Taker w t d e).lookup ("came" : Str) = none := by kernel_rfl
theorem nk_Taker_ends {w t : Int} {d : Addr} {e : V} : (F_Taker w t d e).lookup ("ends" : Str) = none := by kernel_rfl
theorem nk_Taker_has_next {w t : Int} {d : Addr} {e : V} : (F_Taker w t d e).lookup ("has_next" : Str) = none := by kernel_rfl
theorem nk_Taker_take {w t : Int} {d : Addr} {e : V} : (F_Taker w t d e).lookup ("take" : Str) = none := by kernel_rfl
theorem nk_Taker_told {w t : Int} {d : Addr} {e : V} : (F_Taker w t d e).lookup ("told" : Str) = none := by kernel_rfl
theorem nk_Taker_has_all {w t : Int} {d : Addr} {e : V} : (F_Taker w t d e).lookup ("has_all" : Str) = none := by kernel_rfl
theorem nk_Taker_is_ended {w t : Int} {d : Addr} {e : V} : (F_Taker w t d e).lookup ("is_ended" : Str) = none := by kernel_rfl
theorem pt_Taker_taken {w t : Int} {d : Addr} {e : V} {z : Int} : putF ("taken" : Str) (.int z) (F_Taker w t d e) = F_Taker w z d e := by kernel_rfl
theorem pt_Taker_end {w t : Int} {d : Addr} {e : V} {z : V} : putF ("end" : Str) z (F_Taker w t d e) = F_Taker w t d z := by kernel_rfl
theorem pi_Taker_1 {z : V} : putF ("wide" : Str) z [] = [(("wide" : Str), z)] := by kernel_rfl
theorem pi_Taker_2 {a z : V} : putF ("taken" : Str) z [(("wide" : Str), a)] = [(("wide" : Str), a), (("taken" : Str), z)] := by kernel_rfl
theorem pi_Taker_3 {a b z : V} : putF ("kept" : Str) z [(("wide" : Str), a), (("taken" : Str), b)] = [(("wide" : Str), a), (("taken" : Str), b), (("kept" : Str), z)] := by kernel_rfl
theorem pi_Taker_4 {w t : Int} {d : Addr} {z : V} : putF ("end" : Str) z [(("wide" : Str), .int w), (("taken" : Str), .int t), (("kept" : Str), .ref d)] = F_Taker w t d z := by kernel_rfl
structure TkCls (K : PySem.W.Frag) (C : Addr) : Prop where
  c_Taker : Cls K C
  na_Taker_wide : NoAttr K C "wide"
  na_Taker_taken : NoAttr K C "taken"
  na_Taker_kept : NoAttr K C "kept"
  na_Taker_end : NoAttr K C "end"
def spTkInit (C : Addr) : Sp := fun vs H Q _ => ∃ (p dx : Addr) (w : Int), vs = [.ref p, .int w] ∧ H p = some (.ins C dx []) ∧ ∀ (d : Addr) (H' : Hp), H d = none → H' p = some (.ins C dx (F_Taker w 0 d .non)) → H' d = some (.dK []) → (∀ b o, H b = some o → b ≠ p → H' b = some o) → Q .non H'
theorem c_mkTaker {C : Addr} {w : Int} {H0 H : Hp} {ft : List Addr} {l : List Cell} {Q : VK} {E : XK} (S : Sep H0 ft H l) (k : ∀ x dx d H', Sep H0 ft H' ((2, d, .dK []) :: (2, x, .ins C dx (F_Taker w 0 d .non)) :: l) → Q (.ref x) H') :
    rMkK C 0 1 (spTkInit C) (fun vs zs => vs ++ zs) E [] [V.int w] H Q := by
  refine ⟨rfl, rfl, fun x dx hx hd n => ⟨x, dx, w, rfl, upd_same, fun d H' nd e1 e2 F => ⟨rfl, ?_⟩⟩⟩
  have S1 := S.made (C := C) hx hd n
  have S2 := S1.chg1 0 rfl F e1
  exact k x dx d H' (S1.got S2 rfl nd e2)
/-- what comes: kept where there is room for it and nothing is there -/
def camK (t w : Int) (kvs : List (Key × V)) (i : Int) (v : V) : List (Key × V) := if (t ≤ i ∧ i < t + w) ∧ valV kvs (.inl i : Key) = none then putK kvs (.inl i) v else kvs
def spCame (C : Addr) : Sp := fun vs H Q _ => ∃ (p dx d : Addr) (w t i : Int) (e v : V) (kvs : List (Key × V)), vs = [.ref p, .int i, v] ∧ H p = some (.ins C dx (F_Taker w t d e)) ∧ H d = some (.dK kvs) ∧ kvs.length < 100000 ∧
  ∀ H' : Hp, H' d = some (.dK (camK t w kvs i v)) → (∀ b o, H b = some o → b ≠ d → H' b = some o) → Q .non H'
theorem c_came {C : Addr} {H0 H : Hp} {ft : List Addr} {l : List Cell} {t1 t2 : Nat} {p dx d : Addr} {w t i : Int} {e v : V} {kvs : List (Key × V)} {Q : VK} {E : XK} (S : Sep H0 ft H l) (n m : Nat) (h : l[n]? = some (t1, p, .ins C dx (F_Taker w t d e))) (h' : l[m]? = some (t2, d, .dK kvs)) (hl : kvs.length < 100000)
    (k : ∀ H', Sep H0 ft H' (l.set m (t2, d, .dK (camK t w kvs i v))) → Q .non H') (ht : t2 = 1 ∨ t2 = 2 := by first | exact .inl rfl | exact .inr rfl) : spCame C [.ref p, .int i, v] H Q E :=
  ⟨p, dx, d, w, t, i, e, v, kvs, rfl, S.get n h, S.get m h', hl, fun H' e1 F => k H' (S.chg1 m h' F e1 ht)⟩
def spTake (C : Addr) : Sp := fun vs H Q _ => ∃ (p dx d : Addr) (w t : Int) (e : V) (kvs : List (Key × V)), vs = [.ref p] ∧ H p = some (.ins C dx (F_Taker w t d e)) ∧ H d = some (.dK kvs) ∧
  (valV kvs (.inl t : Key) = none → ∀ H' : Hp, (∀ b o, H b = some o → H' b = some o) → Q .non H') ∧
  ∀ v, valV kvs (.inl t : Key) = some v → ∀ H' : Hp, H' p = some (.ins C dx (F_Taker w (t + 1) d e)) → H' d = some (.dK (dropK kvs (.inl t))) → (∀ b o, H b = some o → b ≠ p → b ≠ d → H' b = some o) → Q v H'
theorem c_take {C : Addr} {H0 H : Hp} {ft : List Addr} {l : List Cell} {t1 t2 : Nat} {p dx d : Addr} {w t : Int} {e : V} {kvs : List (Key × V)} {Q : VK} {E : XK} (S : Sep H0 ft H l) (n m : Nat) (h : l[n]? = some (t1, p, .ins C dx (F_Taker w t d e))) (h' : l[m]? = some (t2, d, .dK kvs))
    (k0 : valV kvs (.inl t : Key) = none → ∀ H', Sep H0 ft H' l → Q .non H') (k1 : ∀ v, valV kvs (.inl t : Key) = some v → ∀ H', Sep H0 ft H' ((l.set n (t1, p, .ins C dx (F_Taker w (t + 1) d e))).set m (t2, d, .dK (dropK kvs (.inl t)))) → Q v H') (nm : n ≠ m := by decide)
    (ht1 : t1 = 1 ∨ t1 = 2 := by first | exact .inl rfl | exact .inr rfl) (ht : t2 = 1 ∨ t2 = 2 := by first | exact .inl rfl | exact .inr rfl) : spTake C [.ref p] H Q E :=
  ⟨p, dx, d, w, t, e, kvs, rfl, S.get n h, S.get m h', fun hn H' F => k0 hn H' (S.stay F), fun v hv H' e1 e2 F => k1 v hv H' (S.chg2 n m h h' nm F e1 e2 ht1 ht)⟩
/-- how far the keys go from t on without a gap -/
structure Reach (kvs : List (Key × V)) (t g : Int) : Prop where
  le : t ≤ g
  all : ∀ i, t ≤ i → i < g → valV kvs (.inl i : Key) ≠ none
  no : valV kvs (.inl g : Key) = none
def above (kvs : List (Key × V)) (g : Int) : Nat := kvs.countP fun kv => match kv.1 with | .inl i => decide (g ≤ i) | .inr _ => false
theorem above_lt {g : Int} {v : V} : ∀ {kvs : List (Key × V)}, valV kvs (.inl g : Key) = some v → above kvs (g + 1) < above kvs g
  | [], h => by cases h
  | (k, x) :: r, h => by
    have mono : above r (g + 1) ≤ above r g := List.countP_mono_left fun kv _ hk => by
      revert hk
      cases kv.1 with
      | inl i => intro hk; exact decide_eq_true (by have := of_decide_eq_true hk; omega)
      | inr _ => intro hk; exact hk
    by_cases e : k = .inl g
    · subst e
      unfold above at mono ⊢
      rw [List.countP_cons, List.countP_cons, if_neg (by simp; omega), if_pos (by simp)]
      omega
    · rw [valV_neg (p := (k, x)) e] at h
      have ih := above_lt h
      unfold above at ih mono ⊢
      rw [List.countP_cons, List.countP_cons]
      have : (if (match (k, x).1 with | .inl i => decide (g + 1 ≤ i) | .inr _ => false) = true then 1 else 0) ≤ (if (match (k, x).1 with | .inl i => decide (g ≤ i) | .inr _ => false) = true then 1 else 0) := by
        cases k with
        | inl i =>
          show (if decide (g + 1 ≤ i) = true then 1 else 0) ≤ (if decide (g ≤ i) = true then 1 else 0)
          by_cases a : g + 1 ≤ i
          · rw [decide_eq_true a, decide_eq_true (show g ≤ i by omega)] <;> exact Nat.le_refl _
          · rw [decide_eq_false a]; exact Nat.zero_le _
        | inr _ => exact Nat.le_refl _
      omega
def spTold (C : Addr) : Sp := fun vs H Q _ => ∃ (p dx d : Addr) (w t : Int) (e : V) (kvs : List (Key × V)), vs = [.ref p] ∧ H p = some (.ins C dx (F_Taker w t d e)) ∧ H d = some (.dK kvs) ∧
  ∀ (g : Int) (q : Addr) (H' : Hp), Reach kvs t g → H q = none → H' q = some (.tup [.int g, .int (t + w)]) → (∀ b o, H b = some o → H' b = some o) → Q (.ref q) H'
theorem c_told {C : Addr} {H0 H : Hp} {ft : List Addr} {l : List Cell} {t1 t2 : Nat} {p dx d : Addr} {w t : Int} {e : V} {kvs : List (Key × V)} {Q : VK} {E : XK} (S : Sep H0 ft H l) (n m : Nat) (h : l[n]? = some (t1, p, .ins C dx (F_Taker w t d e))) (h' : l[m]? = some (t2, d, .dK kvs))
    (k : ∀ g q H', Reach kvs t g → Sep H0 ft H' ((2, q, .tup [.int g, .int (t + w)]) :: l) → Q (.ref q) H') : spTold C [.ref p] H Q E :=
  ⟨p, dx, d, w, t, e, kvs, rfl, S.get n h, S.get m h', fun g q H' r nq eq F => k g q H' r (S.got (S.stay F) rfl nq eq)⟩
def EndV (e : V) : Prop := e = .non ∨ ∃ m : Int, e = .int m
/-- has it come so far: what is told of the end -/
def endN (e : V) (g : Int) : Bool := match e with | .int m => decide (g ≥ m) | _ => false
theorem Reach.uniq {k k' : List (Key × V)} {t g g' : Int} (r : Reach k t g) (r' : Reach k' t g') (e : ∀ i, t ≤ i → (valV k (.inl i : Key) ≠ none ↔ valV k' (.inl i : Key) ≠ none)) : g = g' := by
  rcases Int.lt_trichotomy g g' with h | h | h
  · exact absurd r.no (((e g r.le).mpr (r'.all g r.le h)))
  · exact h
  · exact absurd r'.no (((e g' r'.le).mp (r.all g' r'.le h)))
theorem Reach.same {k : List (Key × V)} {t g g' : Int} (r : Reach k t g) (r' : Reach k t g') : g = g' := r.uniq r' fun _ _ => Iff.rfl
theorem valV_drop (k : Key) (j : Key) : ∀ kvs : List (Key × V), valV (dropK kvs k) j = if j = k then none else valV kvs j
  | [] => by simp [dropK, valV]
  | p :: r => by
    have ih := valV_drop k j r
    by_cases e : p.1 = k
    · rw [dropK_pos e, ih]
      by_cases z : j = k
      · rw [if_pos z, if_pos z]
      · rw [if_neg z, if_neg z, valV_neg (fun q => z (q.symm.trans e))]
    · rw [dropK_neg e]
      by_cases z : p.1 = j
      · rw [valV_pos z, valV_pos z, if_neg (fun q => e (z.trans q))]
      · rw [valV_neg z, valV_neg z, ih]
/-- ints alone are kept -/
def IntsK (kvs : List (Key × V)) : Prop := ∀ i v, valV kvs (.inl i : Key) = some v → ∃ z : Int, v = .int z
theorem IntsK.nil : IntsK [] := fun _ _ h => nomatch h
theorem IntsK.put {kvs : List (Key × V)} {i z : Int} (h : IntsK kvs) : IntsK (putK kvs (.inl i) (.int z)) := fun j v e => by
  rw [valV_put] at e
  by_cases q : (.inl j : Key) = .inl i
  · rw [if_pos q] at e; exact ⟨z, (Option.some.inj e).symm⟩
  · rw [if_neg q] at e; exact h j v e
theorem IntsK.drop {kvs : List (Key × V)} {k : Key} (h : IntsK kvs) : IntsK (dropK kvs k) := fun j v e => by
  rw [valV_drop] at e
  by_cases q : (.inl j : Key) = k
  · rw [if_pos q] at e; cases e
  · rw [if_neg q] at e; exact h j v e
theorem len_dropK {k : List (Key × V)} {i : Key} : (dropK k i).length ≤ k.length := List.length_filter_le _ _
def spEnds (C : Addr) : Sp := fun vs H Q _ => ∃ (p dx d : Addr) (w t : Int) (e v : V), vs = [.ref p, v] ∧ H p = some (.ins C dx (F_Taker w t d e)) ∧ ∀ H' : Hp, H' p = some (.ins C dx (F_Taker w t d (if e = .non then v else e))) → (∀ b o, H b = some o → b ≠ p → H' b = some o) → Q .non H'
theorem c_ends {C : Addr} {H0 H : Hp} {ft : List Addr} {l : List Cell} {t1 : Nat} {p dx d : Addr} {w t : Int} {e v : V} {Q : VK} {E : XK} (S : Sep H0 ft H l) (n : Nat) (h : l[n]? = some (t1, p, .ins C dx (F_Taker w t d e)))
    (k : ∀ H', Sep H0 ft H' (l.set n (t1, p, .ins C dx (F_Taker w t d (if e = .non then v else e)))) → Q .non H') (ht : t1 = 1 ∨ t1 = 2 := by first | exact .inl rfl | exact .inr rfl) : spEnds C [.ref p, v] H Q E :=
  ⟨p, dx, d, w, t, e, v, rfl, S.get n h, fun H' e1 F => k H' (S.chg1 n h F e1 ht)⟩
def spHasAll (C : Addr) : Sp := fun vs H Q _ => ∃ (p dx d : Addr) (w t : Int) (e : V) (kvs : List (Key × V)), vs = [.ref p] ∧ H p = some (.ins C dx (F_Taker w t d e)) ∧ H d = some (.dK kvs) ∧ EndV e ∧
  ∀ (b : Bool) (H' : Hp), (∀ g, Reach kvs t g → b = endN e g) → (∀ b o, H b = some o → H' b = some o) → Q (.bl b) H'
theorem c_hasall {C : Addr} {H0 H : Hp} {ft : List Addr} {l : List Cell} {t1 t2 : Nat} {p dx d : Addr} {w t : Int} {e : V} {kvs : List (Key × V)} {Q : VK} {E : XK} (S : Sep H0 ft H l) (n m : Nat) (h : l[n]? = some (t1, p, .ins C dx (F_Taker w t d e))) (h' : l[m]? = some (t2, d, .dK kvs)) (he : EndV e)
    (k : ∀ b H', (∀ g, Reach kvs t g → b = endN e g) → Sep H0 ft H' l → Q (.bl b) H') : spHasAll C [.ref p] H Q E :=
  ⟨p, dx, d, w, t, e, kvs, rfl, S.get n h, S.get m h', he, fun b H' hb F => k b H' hb (S.stay F)⟩
def spIsEnded (C : Addr) : Sp := fun vs H Q _ => ∃ (p dx d : Addr) (w t : Int) (e : V), vs = [.ref p] ∧ H p = some (.ins C dx (F_Taker w t d e)) ∧ EndV e ∧ Q (.bl (endN e t)) H
theorem c_isended {C : Addr} {H0 H : Hp} {ft : List Addr} {l : List Cell} {t1 : Nat} {p dx d : Addr} {w t : Int} {e : V} {Q : VK} {E : XK} (S : Sep H0 ft H l) (n : Nat) (h : l[n]? = some (t1, p, .ins C dx (F_Taker w t d e))) (he : EndV e) (k : Q (.bl (endN e t)) H) : spIsEnded C [.ref p] H Q E :=
  ⟨p, dx, d, w, t, e, rfl, S.get n h, he, k⟩
section
variable {P : Program} {w : World} {K : PySem.W.Frag} {mg : Str → Option Value} {base : Heap}
abbrev s_Taker__init : Stmt := (inClass (topS 8) 0)
theorem sc_Taker__init : FnScope ["self", "window"] ["self", "window"] (defScope s_Taker__init) := ⟨rfl, rfl, rfl, by decide +kernel, rfl, by decide +kernel, by decide +kernel⟩
theorem ok_Taker__init {f : Addr} {fd : FuncData} {C : Addr} (F : L2.Fun K "__init__" "Taker.__init__" s_Taker__init f fd) (T : TkCls K C) : FnOk P w K mg base CX0 1 f fd ["self", "window"] (spTkInit C) := by
  refine F.ok sc_Taker__init (fun vs H Q E h => ?_) (fun cdv A outer s H0 vs Q E hr h => ?_)
  · obtain ⟨p, dx, w, rfl, hp, k⟩ := h
    rfl
  · obtain ⟨p, dx, w, rfl, hp, k⟩ := h
    have hu := hu_of hr
    have S := Sep.of1 hp
    refine ⟨_, pss_cons (ps_fld1 (pv 0) (pv 1) rfl)
      (pss_cons (ps_fld1 (pv 0) (pe_int) rfl)
      (pss_cons (ps_fld1 (pv 0) (pe_dnewK) rfl)
      (pss_one (ps_fld1 (pv 0) (pe_non) rfl)))), ?_⟩
    rw [show start ["self", "window"] [V.ref p, V.int w] = [some (V.ref p), some (V.int w)] from rfl]
    try dsimp only [tSeq, tAsg, gName, tOp, tUn, tCB, tCons, tNil, tCall, tMethK1, tCallK1, tPar3, tRet, tRetN, tDrop, tTest, tB, tC, tNext, tAugS, tAug, sFld1, sFldAug1, tMeth1, tMake, tMakeK1, tSl, tPart, tNoPart, sDPut1, tDPop, tBM, tBM0, tPar, gSub, tChain, tNot, tNotV, tDG1, tDG2, tDNewT1, iKeys1, iEnum1, iList1, iTup1, iRng1, iRng2, List.set_cons_zero, List.set_cons_succ]
    refine x_var (by exact rfl) ?_
    refine x_var (by exact rfl) ?_
    refine x_sfld S 0 (by exact rfl) T.c_Taker T.na_Taker_wide pi_Taker_1 (by exact Nat.le_of_ble_eq_true rfl) (fun H S => ?_)
    simp only [List.set_cons_zero, List.set_cons_succ] at S
    try dsimp only [tSeq, tAsg, gName, tOp, tUn, tCB, tCons, tNil, tCall, tMethK1, tCallK1, tPar3, tRet, tRetN, tDrop, tTest, tB, tC, tNext, tAugS, tAug, sFld1, sFldAug1, tMeth1, tMake, tMakeK1, tSl, tPart, tNoPart, sDPut1, tDPop, tBM, tBM0, tPar, gSub, tChain, tNot, tNotV, tDG1, tDG2, tDNewT1, iKeys1, iEnum1, iList1, iTup1, iRng1, iRng2, List.set_cons_zero, List.set_cons_succ]
    refine x_var (by exact rfl) ?_
    refine x_sfld S 0 (by exact rfl) T.c_Taker T.na_Taker_taken pi_Taker_2 (by exact Nat.le_of_ble_eq_true rfl) (fun H S => ?_)
    simp only [List.set_cons_zero, List.set_cons_succ] at S
    try dsimp only [tSeq, tAsg, gName, tOp, tUn, tCB, tCons, tNil, tCall, tMethK1, tCallK1, tPar3, tRet, tRetN, tDrop, tTest, tB, tC, tNext, tAugS, tAug, sFld1, sFldAug1, tMeth1, tMake, tMakeK1, tSl, tPart, tNoPart, sDPut1, tDPop, tBM, tBM0, tPar, gSub, tChain, tNot, tNotV, tDG1, tDG2, tDNewT1, iKeys1, iEnum1, iList1, iTup1, iRng1, iRng2, List.set_cons_zero, List.set_cons_succ]
    refine x_dnew S (fun D1 H S => ?_)
    refine x_var (by exact rfl) ?_
    refine x_sfld S 1 (by exact rfl) T.c_Taker T.na_Taker_kept pi_Taker_3 (by exact Nat.le_of_ble_eq_true rfl) (fun H S => ?_)
    simp only [List.set_cons_zero, List.set_cons_succ] at S
    try dsimp only [tSeq, tAsg, gName, tOp, tUn, tCB, tCons, tNil, tCall, tMethK1, tCallK1, tPar3, tRet, tRetN, tDrop, tTest, tB, tC, tNext, tAugS, tAug, sFld1, sFldAug1, tMeth1, tMake, tMakeK1, tSl, tPart, tNoPart, sDPut1, tDPop, tBM, tBM0, tPar, gSub, tChain, tNot, tNotV, tDG1, tDG2, tDNewT1, iKeys1, iEnum1, iList1, iTup1, iRng1, iRng2, List.set_cons_zero, List.set_cons_succ]
    refine x_var (by exact rfl) ?_
    refine x_sfld S 1 (by exact rfl) T.c_Taker T.na_Taker_end pi_Taker_4 (by exact Nat.le_of_ble_eq_true rfl) (fun H S => ?_)
    simp only [List.set_cons_zero, List.set_cons_succ] at S
    exact k _ _ (S.new_none 0 rfl) (S.get 1 rfl) (S.get 0 rfl) S.out1
abbrev s_Taker_came : Stmt := (inClass (topS 8) 1)
theorem sc_Taker_came : FnScope ["self", "place", "value"] ["self", "place", "value"] (defScope s_Taker_came) := ⟨rfl, rfl, rfl, by decide +kernel, rfl, by decide +kernel, by decide +kernel⟩
theorem ok_Taker_came {f : Addr} {fd : FuncData} {C : Addr} (F : L2.Fun K "came" "Taker.came" s_Taker_came f fd) (T : TkCls K C) : FnOk P w K mg base CX0 1 f fd ["self", "place", "value"] (spCame C) := by
  refine F.ok sc_Taker_came (fun vs H Q E h => ?_) (fun cdv A outer s H0 vs Q E hr h => ?_)
  · obtain ⟨p, dx, d, w, t, i, e, v, kvs, rfl, hp, hd, hl, k⟩ := h
    rfl
  · obtain ⟨p, dx, d, w, t, i, e, v, kvs, rfl, hp, hd, hl, k⟩ := h
    have hu := hu_of hr
    have S : Sep H0 [d] H0 [(0, p, .ins C dx (F_Taker w t d e)), (1, d, .dK kvs)] := (Sep.of1 hd).add 0 hp (fun c hc z => by rw [List.mem_singleton.mp hc] at z; exact ne_of hd hp (by intro z; cases z) z) (fun z => by cases z) (fun z => by cases z)
    refine ⟨_, pss_one (ps_if ((pw_and (pt_chain op_le op_lt (pe_fldK K (pv 0)) (pv 1) (pe_op op_add (pe_fldK K (pv 0)) (pe_fldK K (pv 0)))) (pw_and1 (pt_cmp (pc_dni1 hu (pv 1) (pe_fldK K (pv 0)))))).pt) (pss_one (ps_dput1 hu (pe_fldK K (pv 0)) (pv 1) (pv 2) rfl)) (pss_nil)), ?_⟩
    rw [show start ["self", "place", "value"] [V.ref p, V.int i, v] = [some (V.ref p), some (V.int i), some (v)] from rfl]
    try dsimp only [tSeq, tAsg, gName, tOp, tUn, tCB, tCons, tNil, tCall, tMethK1, tCallK1, tPar3, tRet, tRetN, tDrop, tTest, tB, tC, tNext, tAugS, tAug, sFld1, sFldAug1, tMeth1, tMake, tMakeK1, tSl, tPart, tNoPart, sDPut1, tDPop, tBM, tBM0, tPar, gSub, tChain, tNot, tNotV, tDG1, tDG2, tDNewT1, iKeys1, iEnum1, iList1, iTup1, iRng1, iRng2, List.set_cons_zero, List.set_cons_succ]
    refine x_if ?_
    try dsimp only [tSeq, tAsg, gName, tOp, tUn, tCB, tCons, tNil, tCall, tMethK1, tCallK1, tPar3, tRet, tRetN, tDrop, tTest, tB, tC, tNext, tAugS, tAug, sFld1, sFldAug1, tMeth1, tMake, tMakeK1, tSl, tPart, tNoPart, sDPut1, tDPop, tBM, tBM0, tPar, gSub, tChain, tNot, tNotV, tDG1, tDG2, tDNewT1, iKeys1, iEnum1, iList1, iTup1, iRng1, iRng2, List.set_cons_zero, List.set_cons_succ]
    refine x_and ?_
    try dsimp only [tSeq, tAsg, gName, tOp, tUn, tCB, tCons, tNil, tCall, tMethK1, tCallK1, tPar3, tRet, tRetN, tDrop, tTest, tB, tC, tNext, tAugS, tAug, sFld1, sFldAug1, tMeth1, tMake, tMakeK1, tSl, tPart, tNoPart, sDPut1, tDPop, tBM, tBM0, tPar, gSub, tChain, tNot, tNotV, tDG1, tDG2, tDNewT1, iKeys1, iEnum1, iList1, iTup1, iRng1, iRng2, List.set_cons_zero, List.set_cons_succ]
    refine x_var (by exact rfl) ?_
    refine x_fld S 0 (by exact rfl) T.c_Taker T.na_Taker_taken lk_Taker_taken ?_
    refine x_var (by exact rfl) ?_
    refine x_I0 ?_
    refine ⟨_, rfl, ?_⟩
    refine ited (fun c1 => ?_) (fun c1 => ?_)
    · refine x_var (by exact rfl) ?_
      refine x_fld S 0 (by exact rfl) T.c_Taker T.na_Taker_taken lk_Taker_taken ?_
      refine x_var (by exact rfl) ?_
      refine x_fld S 0 (by exact rfl) T.c_Taker T.na_Taker_wide lk_Taker_wide ?_
      refine x_I0 ?_
      refine x_I0 ?_
      refine ⟨_, rfl, ?_⟩
      refine ited (fun c2 => ?_) (fun c2 => ?_)
      · refine x_var (by exact rfl) ?_
        refine x_var (by exact rfl) ?_
        refine x_fld S 0 (by exact rfl) T.c_Taker T.na_Taker_kept lk_Taker_kept ?_
        refine x_dni (k := Sum.inl _) S 1 (by exact rfl) ?_
        refine ⟨_, rfl, ?_⟩
        refine iteNone (fun c3 => ?_) (fun wc3 c3 => ?_)
        · try dsimp only [tSeq, tAsg, gName, tOp, tUn, tCB, tCons, tNil, tCall, tMethK1, tCallK1, tPar3, tRet, tRetN, tDrop, tTest, tB, tC, tNext, tAugS, tAug, sFld1, sFldAug1, tMeth1, tMake, tMakeK1, tSl, tPart, tNoPart, sDPut1, tDPop, tBM, tBM0, tPar, gSub, tChain, tNot, tNotV, tDG1, tDG2, tDNewT1, iKeys1, iEnum1, iList1, iTup1, iRng1, iRng2, List.set_cons_zero, List.set_cons_succ]
          refine x_var (by exact rfl) ?_
          refine x_var (by exact rfl) ?_
          refine x_fld S 0 (by exact rfl) T.c_Taker T.na_Taker_kept lk_Taker_kept ?_
          refine x_var (by exact rfl) ?_
          refine x_dput (k := Sum.inl _) S 1 (by exact rfl) (by omega) (fun H S => ?_)
          simp only [List.set_cons_zero, List.set_cons_succ] at S
          exact k _ (by unfold camK; first | (rw [if_pos ⟨⟨by assumption, by assumption⟩, by assumption⟩]; exact S.get 1 rfl) | (rw [if_neg (by rintro ⟨⟨a, b⟩, c⟩; first | contradiction | omega | simp_all)]; exact S.get 1 rfl)) (fun b o e n => by exact S.fr b o e (by simp [n]))
        · exact k _ (by unfold camK; first | (rw [if_pos ⟨⟨by assumption, by assumption⟩, by assumption⟩]; exact S.get 1 rfl) | (rw [if_neg (by rintro ⟨⟨a, b⟩, c⟩; first | contradiction | omega | simp_all)]; exact S.get 1 rfl)) (fun b o e n => by exact S.fr b o e (by simp [n]))
      · refine iteF ?_
        exact k _ (by unfold camK; first | (rw [if_pos ⟨⟨by assumption, by assumption⟩, by assumption⟩]; exact S.get 1 rfl) | (rw [if_neg (by rintro ⟨⟨a, b⟩, c⟩; first | contradiction | omega | simp_all)]; exact S.get 1 rfl)) (fun b o e n => by exact S.fr b o e (by simp [n]))
    · refine ⟨_, rfl, ?_⟩
      refine iteF ?_
      refine iteF ?_
      exact k _ (by unfold camK; first | (rw [if_pos ⟨⟨by assumption, by assumption⟩, by assumption⟩]; exact S.get 1 rfl) | (rw [if_neg (by rintro ⟨⟨a, b⟩, c⟩; first | contradiction | omega | simp_all)]; exact S.get 1 rfl)) (fun b o e n => by exact S.fr b o e (by simp [n]))
abbrev s_Taker_ends : Stmt := (inClass (topS 8) 2)
theorem sc_Taker_ends : FnScope ["self", "many"] ["self", "many"] (defScope s_Taker_ends) := ⟨rfl, rfl, rfl, by decide +kernel, rfl, by decide +kernel, by decide +kernel⟩
theorem ok_Taker_ends {f : Addr} {fd : FuncData} {C : Addr} (F : L2.Fun K "ends" "Taker.ends" s_Taker_ends f fd) (T : TkCls K C) : FnOk P w K mg base CX0 1 f fd ["self", "many"] (spEnds C) := by
  refine F.ok sc_Taker_ends (fun vs H Q E h => ?_) (fun cdv A outer s H0 vs Q E hr h => ?_)
  · obtain ⟨p, dx, d, w, t, e, v, rfl, hp, k⟩ := h
    rfl
  · obtain ⟨p, dx, d, w, t, e, v, rfl, hp, k⟩ := h
    have hu := hu_of hr
    have S := Sep.of1 hp
    refine ⟨_, pss_one (ps_if (pt_cmpR op_isN (pe_fldK K (pv 0)) (pe_non) (nomark _)) (pss_one (ps_fld1 (pv 0) (pv 1) rfl)) (pss_nil)), ?_⟩
    rw [show start ["self", "many"] [V.ref p, v] = [some (V.ref p), some (v)] from rfl]
    try dsimp only [tSeq, tAsg, gName, tOp, tUn, tCB, tCons, tNil, tCall, tMethK1, tCallK1, tPar3, tRet, tRetN, tDrop, tTest, tB, tC, tNext, tAugS, tAug, sFld1, sFldAug1, tMeth1, tMake, tMakeK1, tSl, tPart, tNoPart, sDPut1, tDPop, tBM, tBM0, tPar, gSub, tChain, tNot, tNotV, tDG1, tDG2, tDNewT1, iKeys1, iEnum1, iList1, iTup1, iRng1, iRng2, List.set_cons_zero, List.set_cons_succ]
    refine x_if ?_
    try dsimp only [tSeq, tAsg, gName, tOp, tUn, tCB, tCons, tNil, tCall, tMethK1, tCallK1, tPar3, tRet, tRetN, tDrop, tTest, tB, tC, tNext, tAugS, tAug, sFld1, sFldAug1, tMeth1, tMake, tMakeK1, tSl, tPart, tNoPart, sDPut1, tDPop, tBM, tBM0, tPar, gSub, tChain, tNot, tNotV, tDG1, tDG2, tDNewT1, iKeys1, iEnum1, iList1, iTup1, iRng1, iRng2, List.set_cons_zero, List.set_cons_succ]
    refine x_var (by exact rfl) ?_
    refine x_fld S 0 (by exact rfl) T.c_Taker T.na_Taker_end lk_Taker_end ?_
    refine ⟨rfl, ?_⟩
    refine ⟨_, rfl, ?_⟩
    refine ited (fun c1 => ?_) (fun c1 => ?_)
    · try dsimp only [tSeq, tAsg, gName, tOp, tUn, tCB, tCons, tNil, tCall, tMethK1, tCallK1, tPar3, tRet, tRetN, tDrop, tTest, tB, tC, tNext, tAugS, tAug, sFld1, sFldAug1, tMeth1, tMake, tMakeK1, tSl, tPart, tNoPart, sDPut1, tDPop, tBM, tBM0, tPar, gSub, tChain, tNot, tNotV, tDG1, tDG2, tDNewT1, iKeys1, iEnum1, iList1, iTup1, iRng1, iRng2, List.set_cons_zero, List.set_cons_succ]
      refine x_var (by exact rfl) ?_
      refine x_var (by exact rfl) ?_
      refine x_sfld S 0 (by exact rfl) T.c_Taker T.na_Taker_end pt_Taker_end (by exact Nat.le_of_ble_eq_true rfl) (fun H S => ?_)
      simp only [List.set_cons_zero, List.set_cons_succ] at S
      exact k _ (by rw [if_pos (by assumption)]; exact S.get 0 rfl) S.out1
    · exact k _ (by rw [if_neg (by assumption)]; exact S.get 0 rfl) S.out1
end
end G

set_option linter.all false
set_option maxRecDepth 100000
set_option maxHeartbeats 4000000
namespace G
open PySem PySem.Spec PyProof.Rows L2
/-! ### Table -/
def F_Table (b : Bool) (f : Bool) (m : Addr) (th : Addr) : List (Str × V) := [(("heeds_boots" : Str), V.bl b), (("heeds_floors" : Str), V.bl f), (("met" : Str), V.ref m), (("things" : Str), V.ref th)]
theorem lk_Table_heeds_boots {b : Bool} {f : Bool} {m : Addr} {th : Addr} : (F_Table b f m th).lookup ("heeds_boots" : Str) = some (V.bl b) := by kernel_rfl
theorem lk_Table_heeds_floors {b : Bool} {f : Bool} {m : Addr} {th : Addr} : (F_Table b f m th).lookup ("heeds_floors" : Str) = some (V.bl f) := by kernel_rfl
theorem lk_Table_met {b : Bool} {f : Bool} {m : Addr} {th : Addr} : (F_Table b f m th).lookup ("met" : Str) = some (V.ref m) := by kernel_rfl
theorem lk_Table_things {b : Bool} {f : Bool} {m : Addr} {th : Addr} : (F_Table b f m th).lookup ("things" : Str) = some (V.ref th) := by kernel_rfl
theorem nk_Table_known {b : Bool} {f : Bool} {m : Addr} {th : Addr} : (F_Table b f m th).lookup ("known" : Str) = none := by kernel_rfl
theorem nk_Table_numbers {b : Bool} {f : Bool} {m : Addr} {th : Addr} : (F_Table b f m th).lookup ("numbers" : Str) = none := by kernel_rfl
theorem nk_Table_meet {b : Bool} {f : Bool} {m : Addr} {th : Addr} : (F_Table b f m th).lookup ("meet" : Str) = none := by kernel_rfl
theorem nk_Table_lay {b : Bool} {f : Bool} {m : Addr} {th : Addr} : (F_Table b f m th).lookup ("lay" : Str) = none := by kernel_rfl
theorem pt_Table_heeds_boots {b : Bool} {f : Bool} {m : Addr} {th : Addr} {z9 : Bool} : putF ("heeds_boots" : Str) (V.bl z9) (F_Table b f m th) = F_Table z9 f m th := by kernel_rfl
theorem pt_Table_heeds_floors {b : Bool} {f : Bool} {m : Addr} {th : Addr} {z9 : Bool} : putF ("heeds_floors" : Str) (V.bl z9) (F_Table b f m th) = F_Table b z9 m th := by kernel_rfl
theorem pt_Table_met {b : Bool} {f : Bool} {m : Addr} {th : Addr} {z9 : Addr} : putF ("met" : Str) (V.ref z9) (F_Table b f m th) = F_Table b f z9 th := by kernel_rfl
theorem pt_Table_things {b : Bool} {f : Bool} {m : Addr} {th : Addr} {z9 : Addr} : putF ("things" : Str) (V.ref z9) (F_Table b f m th) = F_Table b f m z9 := by kernel_rfl
theorem pi_Table_1 {z9 : V} : putF ("heeds_boots" : Str) z9 [] = [(("heeds_boots" : Str), z9)] := by kernel_rfl
theorem pi_Table_2 {y0 : V} {z9 : V} : putF ("heeds_floors" : Str) z9 [(("heeds_boots" : Str), y0)] = [(("heeds_boots" : Str), y0), (("heeds_floors" : Str), z9)] := by kernel_rfl
theorem pi_Table_3 {y0 : V} {y1 : V} {z9 : V} : putF ("met" : Str) z9 [(("heeds_boots" : Str), y0), (("heeds_floors" : Str), y1)] = [(("heeds_boots" : Str), y0), (("heeds_floors" : Str), y1), (("met" : Str), z9)] := by kernel_rfl
theorem pi_Table_4 {b : Bool} {f : Bool} {m : Addr} {th : Addr} : putF ("things" : Str) (V.ref th) [(("heeds_boots" : Str), V.bl b), (("heeds_floors" : Str), V.bl f), (("met" : Str), V.ref m)] = F_Table b f m th := by kernel_rfl
structure TbCls (K : PySem.W.Frag) (C : Addr) : Prop where
  c_Table : Cls K C
  na_Table_heeds_boots : NoAttr K C "heeds_boots"
  na_Table_heeds_floors : NoAttr K C "heeds_floors"
  na_Table_met : NoAttr K C "met"
  na_Table_things : NoAttr K C "things"

theorem Sep.got2 {H0 H H' : Hp} {ft : List Addr} {l l' : List Cell} {p1 p2 : Addr} {o1 o2 : HO} (S : Sep H0 ft H l) (S' : Sep H0 ft H' l') (e : l'.map (·.2.1) = l.map (·.2.1)) (hn1 : H p1 = none) (hn2 : H p2 = none) (ne : p1 ≠ p2) (h1 : H' p1 = some o1) (h2 : H' p2 = some o2) : Sep H0 ft H' ((2, p2, o2) :: (2, p1, o1) :: l') := by
  refine (S.got S' e hn1 h1).add 2 h2 (fun c hc z => ?_) (fun e => by cases e) fun _ => S.none0 hn2
  rcases List.mem_cons.mp hc with rfl | hc
  · exact ne z
  · have : c.2.1 ∈ l.map (·.2.1) := by rw [← e]; exact List.mem_map.mpr ⟨c, hc, rfl⟩
    obtain ⟨d, hd, ed⟩ := List.mem_map.mp this
    have := S.rd d hd
    rw [ed, z, hn2] at this; cases this
def spTbInit (C : Addr) : Sp := fun vs H Q _ => ∃ (p dx : Addr) (b f : Bool), vs = [.ref p, .bl b, .bl f] ∧ H p = some (.ins C dx []) ∧ ∀ (m th : Addr) (H' : Hp), H m = none → H th = none → m ≠ th → H' p = some (.ins C dx (F_Table b f m th)) → H' m = some (.dK []) → H' th = some (.dT []) → (∀ b o, H b = some o → b ≠ p → H' b = some o) → Q .non H'
theorem c_mkTable0 {C : Addr} {b f : Bool} {H0 H : Hp} {ft : List Addr} {l : List Cell} {Q : VK} {E : XK} (S : Sep H0 ft H l) (k : ∀ x dx m th H', Sep H0 ft H' ((2, th, .dT []) :: (2, m, .dK []) :: (2, x, .ins C dx (F_Table b f m th)) :: l) → Q (.ref x) H') :
    rMk0 C (spTbInit C) [V.bl b, V.bl f] E H Q := by
  refine fun x dx hx hd n => ⟨x, dx, b, f, rfl, upd_same, fun m th H' n1 n2 ne e1 e2 e3 F => ⟨rfl, ?_⟩⟩
  have S1 := S.made (C := C) hx hd n
  have S2 := S1.chg1 0 rfl F e1
  exact k x dx m th H' (S1.got2 S2 rfl n1 n2 ne e2 e3)
def spKnown0 (C : Addr) : Sp := fun vs H Q _ => ∃ (p dx m th : Addr) (b f : Bool) (s : Str) (kvs : List (Key × V)), vs = [.ref p, .str s] ∧ H p = some (.ins C dx (F_Table b f m th)) ∧ H m = some (.dK kvs) ∧ valV kvs (.inr s : Key) = none ∧
  ∀ (r : Addr) (H' : Hp), H r = none → H' r = some (.tup [.int 0, .int 1]) → (∀ b o, H b = some o → H' b = some o) → Q (.ref r) H'
theorem c_known0 {C : Addr} {H0 H : Hp} {ft : List Addr} {l : List Cell} {t1 t2 : Nat} {p dx m th : Addr} {b f : Bool} {s : Str} {kvs : List (Key × V)} {Q : VK} {E : XK} (S : Sep H0 ft H l) (i j : Nat) (e1 : l[i]? = some (t1, p, .ins C dx (F_Table b f m th))) (e2 : l[j]? = some (t2, m, .dK kvs)) (hv : valV kvs (.inr s : Key) = none)
    (k : ∀ r H', Sep H0 ft H' ((2, r, .tup [.int 0, .int 1]) :: l) → Q (.ref r) H') : spKnown0 C [.ref p, .str s] H Q E := ⟨p, dx, m, th, b, f, s, kvs, rfl, S.get i e1, S.get j e2, hv, fun r H' hr er F => k r H' (S.got (S.stay F) rfl hr er)⟩
def spNum0 (C : Addr) : Sp := fun vs H Q _ => ∃ (p dx m th : Addr) (b f : Bool) (s : Str), vs = [.ref p, .str s] ∧ H p = some (.ins C dx (F_Table b f m th)) ∧ H th = some (.dT []) ∧ 
  ∀ (r : Addr) (H' : Hp), H r = none → H' r = some (.lst []) → H' th = some (.dT []) → (∀ b o, H b = some o → b ≠ th → H' b = some o) → Q (.ref r) H'
theorem c_num0 {C : Addr} {H0 H : Hp} {ft : List Addr} {l : List Cell} {t1 t2 : Nat} {p dx m th : Addr} {b f : Bool} {s : Str} {Q : VK} {E : XK} (S : Sep H0 ft H l) (i j : Nat) (e1 : l[i]? = some (t1, p, .ins C dx (F_Table b f m th))) (e2 : l[j]? = some (t2, th, .dT []))
    (k : ∀ r H', Sep H0 ft H' ((2, r, .lst []) :: l.set j (t2, th, .dT [])) → Q (.ref r) H') (ht : t2 = 1 ∨ t2 = 2 := by first | exact .inl rfl | exact .inr rfl) : spNum0 C [.ref p, .str s] H Q E :=
  ⟨p, dx, m, th, b, f, s, rfl, S.get i e1, S.get j e2, fun r H' hr er e3 F => k r H' (S.got (S.chg1 j e2 F e3 ht) (map_set e2) hr er)⟩
def spMeet0 (C : Addr) : Sp := fun vs H Q _ => ∃ (p dx m th : Addr) (b f : Bool) (s : Str) (bo fl : Int) (kvs : List (Key × V)), vs = [.ref p, .str s, .int bo, .int fl] ∧ Sep H [m, th] H [(0, p, .ins C dx (F_Table b f m th)), (1, m, .dK kvs), (1, th, .dT [])] ∧ valV kvs (.inr s : Key) = none ∧ kvs.length < 1000 ∧ 1 ≤ bo ∧
  ∀ (r : V) (t : Addr) (H' : Hp), H' m = some (.dK (putK kvs (.inr s) (.ref t))) → H' th = some (.dT []) → (∀ b o, H b = some o → b ∉ [m, th] → H' b = some o) → Q r H'
def spLay (C : Addr) : Sp := fun vs H Q _ => ∃ (p dx m th : Addr) (b f : Bool) (s : Str) (n : Int) (v : V) (kvs : List (List Key × V)), vs = [.ref p, .str s, .int n, v] ∧ H p = some (.ins C dx (F_Table b f m th)) ∧ H th = some (.dT kvs) ∧ kvs.length < 100000 ∧
  ∀ (H' : Hp), H' th = some (.dT (putK kvs [.inr s, .inl n] v)) → (∀ b o, H b = some o → b ≠ th → H' b = some o) → Q .non H'
theorem c_lay {C : Addr} {H0 H : Hp} {ft : List Addr} {l : List Cell} {t1 t2 : Nat} {p dx m th : Addr} {b f : Bool} {s : Str} {n : Int} {v : V} {kvs : List (List Key × V)} {Q : VK} {E : XK} (S : Sep H0 ft H l) (i j : Nat) (e1 : l[i]? = some (t1, p, .ins C dx (F_Table b f m th))) (e2 : l[j]? = some (t2, th, .dT kvs)) (hl : kvs.length < 100000)
    (k : ∀ H', Sep H0 ft H' (l.set j (t2, th, .dT (putK kvs [.inr s, .inl n] v))) → Q .non H') (ht : t2 = 1 ∨ t2 = 2 := by first | exact .inl rfl | exact .inr rfl) : spLay C [.ref p, .str s, .int n, v] H Q E :=
  ⟨p, dx, m, th, b, f, s, n, v, kvs, rfl, S.get i e1, S.get j e2, hl, fun H' e3 F => k H' (S.chg1 j e2 F e3 ht)⟩
section
variable {P : Program} {w : World} {K : PySem.W.Frag} {mg : Str → Option Value} {base : Heap}
abbrev s_Table__init : Stmt := (inClass (topS 10) 0)
theorem sc_Table__init : FnScope ["self", "boots", "floors"] ["self", "boots", "floors"] (defScope s_Table__init) := ⟨rfl, rfl, rfl, by decide +kernel, rfl, by decide +kernel, by decide +kernel⟩
theorem ok_Table__init {f : Addr} {fd : FuncData} {C : Addr} (F : L2.Fun K "__init__" "Table.__init__" s_Table__init f fd) (T : TbCls K C) : FnOk P w K mg base CX0 1 f fd ["self", "boots", "floors"] (spTbInit C) := by
  refine F.ok sc_Table__init (fun vs H Q E h => ?_) (fun cdv A outer s H0 vs Q E hr h => ?_)
  · obtain ⟨p, dx, b, f, rfl, hp, k⟩ := h
    rfl
  · obtain ⟨p, dx, b, f, rfl, hp, k⟩ := h
    have hu := hu_of hr
    have S := Sep.of1 hp
    refine ⟨_, pss_cons (ps_fld1 (pv 0) (pv 1) rfl)
      (pss_cons (ps_fld1 (pv 0) (pv 2) rfl)
      (pss_cons (ps_fld1 (pv 0) (pe_dnewK) rfl)
      (pss_one (ps_fld1 (pv 0) (pe_dnewT1) rfl)))), ?_⟩
    rw [show start ["self", "boots", "floors"] [V.ref p, V.bl b, V.bl f] = [some (V.ref p), some (V.bl b), some (V.bl f)] from rfl]
    try dsimp only [tSeq, tAsg, gName, tOp, tUn, tCB, tCons, tNil, tCall, tMethK1, tCallK1, tPar3, tRet, tRetN, tDrop, tTest, tB, tC, tNext, tAugS, tAug, sFld1, sFldAug1, tMeth1, tMake, tMakeK1, tSl, tPart, tNoPart, sDPut1, tDPop, tBM, tBM0, tPar, gSub, tChain, tNot, tNotV, tDG1, tDG2, tDNewT1, iKeys1, iEnum1, iList1, iTup1, iRng1, iRng2, List.set_cons_zero, List.set_cons_succ]
    refine x_var (by exact rfl) ?_
    refine x_var (by exact rfl) ?_
    refine x_sfld S 0 (by exact rfl) T.c_Table T.na_Table_heeds_boots pi_Table_1 (by exact Nat.le_of_ble_eq_true rfl) (fun H S => ?_)
    simp only [List.set_cons_zero, List.set_cons_succ] at S
    try dsimp only [tSeq, tAsg, gName, tOp, tUn, tCB, tCons, tNil, tCall, tMethK1, tCallK1, tPar3, tRet, tRetN, tDrop, tTest, tB, tC, tNext, tAugS, tAug, sFld1, sFldAug1, tMeth1, tMake, tMakeK1, tSl, tPart, tNoPart, sDPut1, tDPop, tBM, tBM0, tPar, gSub, tChain, tNot, tNotV, tDG1, tDG2, tDNewT1, iKeys1, iEnum1, iList1, iTup1, iRng1, iRng2, List.set_cons_zero, List.set_cons_succ]
    refine x_var (by exact rfl) ?_
    refine x_var (by exact rfl) ?_
    refine x_sfld S 0 (by exact rfl) T.c_Table T.na_Table_heeds_floors pi_Table_2 (by exact Nat.le_of_ble_eq_true rfl) (fun H S => ?_)
    simp only [List.set_cons_zero, List.set_cons_succ] at S
    try dsimp only [tSeq, tAsg, gName, tOp, tUn, tCB, tCons, tNil, tCall, tMethK1, tCallK1, tPar3, tRet, tRetN, tDrop, tTest, tB, tC, tNext, tAugS, tAug, sFld1, sFldAug1, tMeth1, tMake, tMakeK1, tSl, tPart, tNoPart, sDPut1, tDPop, tBM, tBM0, tPar, gSub, tChain, tNot, tNotV, tDG1, tDG2, tDNewT1, iKeys1, iEnum1, iList1, iTup1, iRng1, iRng2, List.set_cons_zero, List.set_cons_succ]
    refine x_dnew S (fun D1 H S => ?_)
    refine x_var (by exact rfl) ?_
    refine x_sfld S 1 (by exact rfl) T.c_Table T.na_Table_met pi_Table_3 (by exact Nat.le_of_ble_eq_true rfl) (fun H S => ?_)
    simp only [List.set_cons_zero, List.set_cons_succ] at S
    try dsimp only [tSeq, tAsg, gName, tOp, tUn, tCB, tCons, tNil, tCall, tMethK1, tCallK1, tPar3, tRet, tRetN, tDrop, tTest, tB, tC, tNext, tAugS, tAug, sFld1, sFldAug1, tMeth1, tMake, tMakeK1, tSl, tPart, tNoPart, sDPut1, tDPop, tBM, tBM0, tPar, gSub, tChain, tNot, tNotV, tDG1, tDG2, tDNewT1, iKeys1, iEnum1, iList1, iTup1, iRng1, iRng2, List.set_cons_zero, List.set_cons_succ]
    refine x_dnewT S (fun D2 H S => ?_)
    refine x_var (by exact rfl) ?_
    refine x_sfld S 2 (by exact rfl) T.c_Table T.na_Table_things pi_Table_4 (by exact Nat.le_of_ble_eq_true rfl) (fun H S => ?_)
    simp only [List.set_cons_zero, List.set_cons_succ] at S
    exact k _ _ _ (S.new_none 1 rfl) (S.new_none 0 rfl) (S.ne 1 0 rfl rfl (by decide)) (S.get 2 rfl) (S.get 1 rfl) (S.get 0 rfl) S.out1
abbrev s_Table_known : Stmt := (inClass (topS 10) 2)
theorem sc_Table_known : FnScope ["self", "of"] ["self", "of"] (defScope s_Table_known) := ⟨rfl, rfl, rfl, by decide +kernel, rfl, by decide +kernel, by decide +kernel⟩
theorem ok_Table_known {f : Addr} {fd : FuncData} {C : Addr} (F : L2.Fun K "known" "Table.known" s_Table_known f fd) (T : TbCls K C) : FnOk P w K mg base CX0 1 f fd ["self", "of"] (spKnown0 C) := by
  refine F.ok sc_Table_known (fun vs H Q E h => ?_) (fun cdv A outer s H0 vs Q E hr h => ?_)
  · obtain ⟨p, dx, m, th, b, f, s, kvs, rfl, hp, hm, hv, k⟩ := h
    rfl
  · obtain ⟨p, dx, m, th, b, f, s, kvs, rfl, hp, hm, hv, k⟩ := h
    have hu := hu_of hr
    have S : Sep H0 [] H0 [(0, p, .ins C dx (F_Table b f m th)), (0, m, .dK kvs)] := (Sep.of0.add 0 hm (fun _ z => nomatch z) (fun z => by cases z) (fun z => by cases z)).add 0 hp (fun c hc z => by rw [List.mem_singleton.mp hc] at z; exact ne_of hm hp (by intro z; cases z) z) (fun z => by cases z) (fun z => by cases z)
    refine ⟨_, pss_one (ps_ret (pe_dg2 hu (pe_fldK K (pv 0)) (pv 1) (pe_tup1 (pa_cons (pe_int) (pa_cons (pe_int) pa_nil))) ⟨rfl, rfl, rfl, rfl⟩)), ?_⟩
    rw [show start ["self", "of"] [V.ref p, V.str s] = [some (V.ref p), some (V.str s)] from rfl]
    try dsimp only [tSeq, tAsg, gName, tOp, tUn, tCB, tCons, tNil, tCall, tMethK1, tCallK1, tPar3, tRet, tRetN, tDrop, tTest, tB, tC, tNext, tAugS, tAug, sFld1, sFldAug1, tMeth1, tMake, tMakeK1, tSl, tPart, tNoPart, sDPut1, tDPop, tBM, tBM0, tPar, gSub, tChain, tNot, tNotV, tDG1, tDG2, tDNewT1, iKeys1, iEnum1, iList1, iTup1, iRng1, iRng2, List.set_cons_zero, List.set_cons_succ]
    refine x_var (by exact rfl) ?_
    refine x_fld S 0 (by exact rfl) T.c_Table T.na_Table_met lk_Table_met ?_
    refine x_isD S 1 (by exact rfl) ?_
    refine x_var (by exact rfl) ?_
    refine x_tup S (by exact Nat.le_of_ble_eq_true rfl) (fun U1 H S => ?_)
    refine x_dg (k := Sum.inr _) S 2 (by exact rfl) (fun ngt1 => ?_) (fun vgt1 egt1 => ?_)
    · exact k _ _ (S.new_none 0 rfl) (S.get 0 rfl) (fun b o e => S.fr b o e (by simp))
    · exact absurd (hv.symm.trans egt1) (fun z => nomatch z)
abbrev s_Table_numbers : Stmt := (inClass (topS 10) 3)
theorem sc_Table_numbers : FnScope ["self", "of", "name", "number"] ["self", "of"] (defScope s_Table_numbers) := ⟨rfl, rfl, rfl, by decide +kernel, rfl, by decide +kernel, by decide +kernel⟩
theorem ok_Table_numbers {f : Addr} {fd : FuncData} {C : Addr} (F : L2.Fun K "numbers" "Table.numbers" s_Table_numbers f fd) (T : TbCls K C) (z_sorted : mg "sorted" = none) : FnOk P w K mg base CX0 1 f fd ["self", "of"] (spNum0 C) := by
  refine F.ok sc_Table_numbers (fun vs H Q E h => ?_) (fun cdv A outer s H0 vs Q E hr h => ?_)
  · obtain ⟨p, dx, m, th, b, f, s, rfl, hp, hd, k⟩ := h
    rfl
  · obtain ⟨p, dx, m, th, b, f, s, rfl, hp, hd, k⟩ := h
    have hu := hu_of hr
    have S : Sep H0 [th] H0 [(0, p, .ins C dx (F_Table b f m th)), (1, th, .dT [])] := (Sep.of1 hd).add 0 hp (fun c hc z => by rw [List.mem_singleton.mp hc] at z; exact ne_of hd hp (by intro z; cases z) z) (fun z => by cases z) (fun z => by cases z)
    refine ⟨_, pss_one (ps_ret (pe_callB (cl_sortedK K) (by rfl) z_sorted (by decide +kernel) (pa_cons (pe_lock (pe_lc (own := [("name", 2), ("number", 3)]) (g := gTup K 2 (gCons (gName 2) (gCons (gName 3) gNil))) rfl sc_Table_numbers.nd (pi_keys1 (pe_fldK K (pv 0))) (blkOk_by (N := ["self", "of", "name", "number"]) (sc := defScope s_Table_numbers) (by decide +kernel)) (fun _ _ _ _ _ => pg_tupK K 2 rfl (pgs_cons (pg_name (i := 2) sc_Table_numbers.nd rfl (.inl rfl)) (pgs_cons (pg_name (i := 3) sc_Table_numbers.nd rfl (.inl rfl)) (pgs_nil)))) (fun _ _ _ _ _ => pts_one (pt_cmpR op_eq (pv 2) (pv 1) (nomark _))) (fun _ _ _ _ _ => pv 3))) pa_nil))), ?_⟩
    rw [show start ["self", "of", "name", "number"] [V.ref p, V.str s] = [some (V.ref p), some (V.str s), none, none] from rfl]
    try dsimp only [tSeq, tAsg, gName, tOp, tUn, tCB, tCons, tNil, tCall, tMethK1, tCallK1, tPar3, tRet, tRetN, tDrop, tTest, tB, tC, tNext, tAugS, tAug, sFld1, sFldAug1, tMeth1, tMake, tMakeK1, tSl, tPart, tNoPart, sDPut1, tDPop, tBM, tBM0, tPar, gSub, tChain, tNot, tNotV, tDG1, tDG2, tDNewT1, iKeys1, iEnum1, iList1, iTup1, iRng1, iRng2, List.set_cons_zero, List.set_cons_succ]
    refine x_lockE S 1 (by exact rfl) (by exact trivial) (fun od H S => ?_)
    simp only [List.set_cons_zero, List.set_cons_succ] at S
    refine x_lc ?_
    try dsimp only [tOp, tUn, tCB, tCons, tNil, tCall, tMethK1, tCallK1, tC, tMeth1, tMake, tMakeK1, tSl, tPart, tNoPart, tDPop, tChain, tNotV, tBM, tBM0, tDG1, tDG2, tDNewT1, iKeys1, iEnum1, iList1, iTup1, iRng1, iRng2]
    refine x_var (by exact rfl) ?_
    refine x_fld S 0 (by exact rfl) T.c_Table T.na_Table_things lk_Table_things ?_
    refine x_ikeysT S 1 (by exact rfl) ?_
    refine lcW (walk_keysT) S (fun D1 H S => ⟨fun i H1 => Sep H0 [th] H1 [(2, D1, .lst []), (0, p, .ins C dx (F_Table b f m th)), (1, th, .frz od (.dT []))], ?_, ?_, ?_, ?_⟩)
    · exact S
    · rintro i H hi S
      exact S.get 2 rfl
    · rintro i y H H9 hi S hy
      exact absurd hi (Nat.not_lt_zero _)
    · rintro H S
      have S : Sep H0 [th] H [(2, D1, .lst (([] : List Int).map V.int)), (0, p, .ins C dx (F_Table b f m th)), (1, th, .frz od (.dT []))] := S
      refine x_unl S 2 (by exact rfl) (fun H S => ?_)
      simp only [List.set_cons_zero, List.set_cons_succ] at S
      refine x_sorted S 0 (by exact rfl) (by first | omega | decide | (simp only [len_insAt, List.length_map, List.length_append, List.length_cons, List.length_nil, List.length_take, List.length_drop] at *; omega)) (fun so1 rso1 H hso1p hso1s S => ?_)
      obtain rfl : so1 = [] := List.Perm.eq_nil hso1p
      exact k _ _ (S.new_none 0 rfl) (S.get 0 rfl) (S.get 3 rfl) S.out1
abbrev s_Table_meet : Stmt := (inClass (topS 10) 5)
theorem sc_Table_meet : FnScope ["self", "of", "boot", "floor", "known", "lowest", "gone", "number"] ["self", "of", "boot", "floor"] (defScope s_Table_meet) := ⟨rfl, rfl, rfl, by decide +kernel, rfl, by decide +kernel, by decide +kernel⟩
theorem ok_Table_meet {f : Addr} {fd : FuncData} {C : Addr} (F : L2.Fun K "meet" "Table.meet" s_Table_meet f fd) (T : TbCls K C) (mknown : Met P w K mg base CX0 1 C "known" (spKnown0 C)) (mnumbers : Met P w K mg base CX0 1 C "numbers" (spNum0 C)) : FnOk P w K mg base CX0 2 f fd ["self", "of", "boot", "floor"] (spMeet0 C) := by
  refine F.ok sc_Table_meet (fun vs H Q E h => ?_) (fun cdv A outer s H0 vs Q E hr h => ?_)
  · obtain ⟨p, dx, m, th, b, f, s, bo, fl, kvs, rfl, S, hv, hl, hbo, k⟩ := h
    rfl
  · obtain ⟨p, dx, m, th, b, f, s, bo, fl, kvs, rfl, S, hv, hl, hbo, k⟩ := h
    have hu := hu_of hr

    refine ⟨_, pss_cons (ps_asg (pe_mt mknown hr (by decide) pass0 (pv 0) (pa_cons (pv 1) pa_nil)) (pg_tup rfl (pgs_cons (pg_name (i := 4) sc_Table_meet.nd rfl (.inl rfl)) (pgs_cons (pg_name (i := 5) sc_Table_meet.nd rfl (.inl rfl)) (pgs_nil)))))
      (pss_cons (ps_if ((pw_and (pt_cmpR op_lt (pv 2) (pv 4) (nomark _)) (pw_and1 (pt_never))).pt) (pss_one (ps_never)) (pss_nil))
      (pss_cons (ps_set (i := 6) sc_Table_meet.nd rfl (.inl rfl) (pe_mt mnumbers hr (by decide) pass0 (pv 0) (pa_cons (pv 1) pa_nil)))
      (pss_cons (ps_if (pt_cmpR op_eq (pv 2) (pv 4) (nomark _)) (pss_cons (ps_never)
      (pss_one (ps_never))) (pss_nil))
      (pss_cons (ps_dput1 hu (pe_fldK K (pv 0)) (pv 1) (pe_tup1 (pa_cons (pv 2) (pa_cons (pv 3) pa_nil))) rfl)
      (pss_one (ps_ret (pe_lc (own := [("number", 7)]) (g := gName 7) rfl sc_Table_meet.nd (pi_listK K (pv 6)) (blkOk_by (N := ["self", "of", "boot", "floor", "known", "lowest", "gone", "number"]) (sc := defScope s_Table_meet) (by decide +kernel)) (fun _ _ _ _ _ => pg_name (i := 7) sc_Table_meet.nd rfl (.inl rfl)) (fun _ _ _ _ _ => pts_nil) (fun _ _ _ _ _ => pe_never)))))))), ?_⟩
    rw [show start ["self", "of", "boot", "floor", "known", "lowest", "gone", "number"] [V.ref p, V.str s, V.int bo, V.int fl] = [some (V.ref p), some (V.str s), some (V.int bo), some (V.int fl), none, none, none, none] from rfl]
    try dsimp only [tSeq, tAsg, gName, tOp, tUn, tCB, tCons, tNil, tCall, tMethK1, tCallK1, tPar3, tRet, tRetN, tDrop, tTest, tB, tC, tNext, tAugS, tAug, sFld1, sFldAug1, tMeth1, tMake, tMakeK1, tSl, tPart, tNoPart, sDPut1, tDPop, tBM, tBM0, tPar, gSub, tChain, tNot, tNotV, tDG1, tDG2, tDNewT1, iKeys1, iEnum1, iList1, iTup1, iRng1, iRng2, List.set_cons_zero, List.set_cons_succ]
    refine x_var (by exact rfl) ?_
    refine x_meth S 0 (by exact rfl) nk_Table_known ?_
    refine x_var (by exact rfl) ?_
    refine c_known0 S 0 1 (by exact rfl) (by exact rfl) hv (fun kn1 H S => ?_)
    refine ⟨_, _, rfl, S.st 0 rfl, rfl, _, _, rfl, _, _, rfl, rfl, ?_⟩
    try dsimp only [tSeq, tAsg, gName, tOp, tUn, tCB, tCons, tNil, tCall, tMethK1, tCallK1, tPar3, tRet, tRetN, tDrop, tTest, tB, tC, tNext, tAugS, tAug, sFld1, sFldAug1, tMeth1, tMake, tMakeK1, tSl, tPart, tNoPart, sDPut1, tDPop, tBM, tBM0, tPar, gSub, tChain, tNot, tNotV, tDG1, tDG2, tDNewT1, iKeys1, iEnum1, iList1, iTup1, iRng1, iRng2, List.set_cons_zero, List.set_cons_succ]
    refine x_if ?_
    try dsimp only [tSeq, tAsg, gName, tOp, tUn, tCB, tCons, tNil, tCall, tMethK1, tCallK1, tPar3, tRet, tRetN, tDrop, tTest, tB, tC, tNext, tAugS, tAug, sFld1, sFldAug1, tMeth1, tMake, tMakeK1, tSl, tPart, tNoPart, sDPut1, tDPop, tBM, tBM0, tPar, gSub, tChain, tNot, tNotV, tDG1, tDG2, tDNewT1, iKeys1, iEnum1, iList1, iTup1, iRng1, iRng2, List.set_cons_zero, List.set_cons_succ]
    refine x_and ?_
    try dsimp only [tSeq, tAsg, gName, tOp, tUn, tCB, tCons, tNil, tCall, tMethK1, tCallK1, tPar3, tRet, tRetN, tDrop, tTest, tB, tC, tNext, tAugS, tAug, sFld1, sFldAug1, tMeth1, tMake, tMakeK1, tSl, tPart, tNoPart, sDPut1, tDPop, tBM, tBM0, tPar, gSub, tChain, tNot, tNotV, tDG1, tDG2, tDNewT1, iKeys1, iEnum1, iList1, iTup1, iRng1, iRng2, List.set_cons_zero, List.set_cons_succ]
    refine x_var (by exact rfl) ?_
    refine x_var (by exact rfl) ?_
    refine x_I0 ?_
    refine ⟨_, rfl, ?_⟩
    refine ited (fun c1 => ?_) (fun c1 => ?_)
    · exact absurd c1 (by omega)
    · refine iteF ?_
      try dsimp only [tSeq, tAsg, gName, tOp, tUn, tCB, tCons, tNil, tCall, tMethK1, tCallK1, tPar3, tRet, tRetN, tDrop, tTest, tB, tC, tNext, tAugS, tAug, sFld1, sFldAug1, tMeth1, tMake, tMakeK1, tSl, tPart, tNoPart, sDPut1, tDPop, tBM, tBM0, tPar, gSub, tChain, tNot, tNotV, tDG1, tDG2, tDNewT1, iKeys1, iEnum1, iList1, iTup1, iRng1, iRng2, List.set_cons_zero, List.set_cons_succ]
      refine x_var (by exact rfl) ?_
      refine x_meth S 1 (by exact rfl) nk_Table_numbers ?_
      refine x_var (by exact rfl) ?_
      refine c_num0 S 1 3 (by exact rfl) (by exact rfl) (fun nu1 H S => ?_)
      simp only [List.set_cons_zero, List.set_cons_succ] at S
      try dsimp only [tSeq, tAsg, gName, tOp, tUn, tCB, tCons, tNil, tCall, tMethK1, tCallK1, tPar3, tRet, tRetN, tDrop, tTest, tB, tC, tNext, tAugS, tAug, sFld1, sFldAug1, tMeth1, tMake, tMakeK1, tSl, tPart, tNoPart, sDPut1, tDPop, tBM, tBM0, tPar, gSub, tChain, tNot, tNotV, tDG1, tDG2, tDNewT1, iKeys1, iEnum1, iList1, iTup1, iRng1, iRng2, List.set_cons_zero, List.set_cons_succ]
      refine x_if ?_
      try dsimp only [tSeq, tAsg, gName, tOp, tUn, tCB, tCons, tNil, tCall, tMethK1, tCallK1, tPar3, tRet, tRetN, tDrop, tTest, tB, tC, tNext, tAugS, tAug, sFld1, sFldAug1, tMeth1, tMake, tMakeK1, tSl, tPart, tNoPart, sDPut1, tDPop, tBM, tBM0, tPar, gSub, tChain, tNot, tNotV, tDG1, tDG2, tDNewT1, iKeys1, iEnum1, iList1, iTup1, iRng1, iRng2, List.set_cons_zero, List.set_cons_succ]
      refine x_var (by exact rfl) ?_
      refine x_var (by exact rfl) ?_
      refine x_eq ?_
      refine ⟨_, rfl, ?_⟩
      refine iteq (fun c2 => ?_) (fun c2 => ?_)
      · exact absurd c2 (by omega)
      · try dsimp only [tSeq, tAsg, gName, tOp, tUn, tCB, tCons, tNil, tCall, tMethK1, tCallK1, tPar3, tRet, tRetN, tDrop, tTest, tB, tC, tNext, tAugS, tAug, sFld1, sFldAug1, tMeth1, tMake, tMakeK1, tSl, tPart, tNoPart, sDPut1, tDPop, tBM, tBM0, tPar, gSub, tChain, tNot, tNotV, tDG1, tDG2, tDNewT1, iKeys1, iEnum1, iList1, iTup1, iRng1, iRng2, List.set_cons_zero, List.set_cons_succ]
        refine x_var (by exact rfl) ?_
        refine x_var (by exact rfl) ?_
        refine x_tup S (by exact Nat.le_of_ble_eq_true rfl) (fun U1 H S => ?_)
        refine x_var (by exact rfl) ?_
        refine x_fld S 3 (by exact rfl) T.c_Table T.na_Table_met lk_Table_met ?_
        refine x_var (by exact rfl) ?_
        refine x_dput (k := Sum.inr _) S 4 (by exact rfl) (by omega) (fun H S => ?_)
        simp only [List.set_cons_zero, List.set_cons_succ] at S
        try dsimp only [tSeq, tAsg, gName, tOp, tUn, tCB, tCons, tNil, tCall, tMethK1, tCallK1, tPar3, tRet, tRetN, tDrop, tTest, tB, tC, tNext, tAugS, tAug, sFld1, sFldAug1, tMeth1, tMake, tMakeK1, tSl, tPart, tNoPart, sDPut1, tDPop, tBM, tBM0, tPar, gSub, tChain, tNot, tNotV, tDG1, tDG2, tDNewT1, iKeys1, iEnum1, iList1, iTup1, iRng1, iRng2, List.set_cons_zero, List.set_cons_succ]
        refine x_lc ?_
        try dsimp only [tOp, tUn, tCB, tCons, tNil, tCall, tMethK1, tCallK1, tC, tMeth1, tMake, tMakeK1, tSl, tPart, tNoPart, tDPop, tChain, tNotV, tBM, tBM0, tDG1, tDG2, tDNewT1, iKeys1, iEnum1, iList1, iTup1, iRng1, iRng2]
        refine x_var (by exact rfl) ?_
        refine x_ilist S 1 (by exact rfl) ?_
        refine lcW (walk_list (xs := [])) S (fun D1 H S => ⟨fun i H1 => Sep H0 [m, th] H1 [(2, D1, .lst []), (2, nu1, .lst []), (0, p, .ins C dx (F_Table b f m th)), (1, m, .dK (putK kvs (.inr s) (.ref U1))), (1, th, .dT [])], ?_, ?_, ?_, ?_⟩)
        · exact S.sub [0, 2, 4, 5, 6]
        · rintro i H hi S
          exact S.sl 1 rfl
        · rintro i y H H9 hi S hy
          exact absurd hi (Nat.not_lt_zero _)
        · rintro H S
          exact k _ _ _ (S.get 3 rfl) (S.get 4 rfl) S.fr
abbrev s_Table_lay : Stmt := (inClass (topS 10) 7)
theorem sc_Table_lay : FnScope ["self", "of", "number", "thing"] ["self", "of", "number", "thing"] (defScope s_Table_lay) := ⟨rfl, rfl, rfl, by decide +kernel, rfl, by decide +kernel, by decide +kernel⟩
theorem ok_Table_lay {f : Addr} {fd : FuncData} {C : Addr} (F : L2.Fun K "lay" "Table.lay" s_Table_lay f fd) (T : TbCls K C) : FnOk P w K mg base CX0 1 f fd ["self", "of", "number", "thing"] (spLay C) := by
  refine F.ok sc_Table_lay (fun vs H Q E h => ?_) (fun cdv A outer s H0 vs Q E hr h => ?_)
  · obtain ⟨p, dx, m, th, b, f, s, n, v, kvs, rfl, hp, hd, hl, k⟩ := h
    rfl
  · obtain ⟨p, dx, m, th, b, f, s, n, v, kvs, rfl, hp, hd, hl, k⟩ := h
    have hu := hu_of hr
    have S : Sep H0 [th] H0 [(0, p, .ins C dx (F_Table b f m th)), (1, th, .dT kvs)] := (Sep.of1 hd).add 0 hp (fun c hc z => by rw [List.mem_singleton.mp hc] at z; exact ne_of hd hp (by intro z; cases z) z) (fun z => by cases z) (fun z => by cases z)
    refine ⟨_, pss_one (ps_dput1 hu (pe_fldK K (pv 0)) (pe_tup1 (pa_cons (pv 1) (pa_cons (pv 2) pa_nil))) (pv 3) rfl), ?_⟩
    rw [show start ["self", "of", "number", "thing"] [V.ref p, V.str s, V.int n, v] = [some (V.ref p), some (V.str s), some (V.int n), some (v)] from rfl]
    try dsimp only [tSeq, tAsg, gName, tOp, tUn, tCB, tCons, tNil, tCall, tMethK1, tCallK1, tPar3, tRet, tRetN, tDrop, tTest, tB, tC, tNext, tAugS, tAug, sFld1, sFldAug1, tMeth1, tMake, tMakeK1, tSl, tPart, tNoPart, sDPut1, tDPop, tBM, tBM0, tPar, gSub, tChain, tNot, tNotV, tDG1, tDG2, tDNewT1, iKeys1, iEnum1, iList1, iTup1, iRng1, iRng2, List.set_cons_zero, List.set_cons_succ]
    refine x_var (by exact rfl) ?_
    refine x_var (by exact rfl) ?_
    refine x_fld S 0 (by exact rfl) T.c_Table T.na_Table_things lk_Table_things ?_
    refine x_var (by exact rfl) ?_
    refine x_var (by exact rfl) ?_
    refine x_tup S (by exact Nat.le_of_ble_eq_true rfl) (fun U1 H S => ?_)
    refine x_dputT [.inr _, .inl _] S 2 0 (by exact rfl) (by exact rfl) (by first | omega | decide | (simp only [len_insAt, List.length_map, List.length_append, List.length_cons, List.length_nil, List.length_take, List.length_drop] at *; omega)) (fun H S => ?_)
    simp only [List.set_cons_zero, List.set_cons_succ] at S
    exact k _ (S.get 2 rfl) S.out1
end
end G

set_option linter.all false
set_option maxRecDepth 100000
set_option maxHeartbeats 4000000
namespace G
open PySem PySem.Spec PyProof.Rows L2
theorem len_cam {t w y : Int} {k : List (Key × V)} {v : V} : (camK t w k y v).length ≤ k.length + 1 := by
  unfold camK
  split
  · exact length_putK _ _ _
  · omega

def AllN (xs : List V) : Prop := ∀ v ∈ xs, v = V.non
theorem AllN.nil : AllN [] := fun _ h => nomatch h
theorem AllN.snoc {xs : List V} (h : AllN xs) : AllN (xs ++ [V.non]) := fun v hv => (List.mem_append.mp hv).elim (h v) fun e => List.mem_singleton.mp e
theorem AllN.app {xs ys : List V} (h : AllN xs) (h' : AllN ys) : AllN (xs ++ ys) := fun v hv => (List.mem_append.mp hv).elim (h v) (h' v)
def spGT : Sp := fun vs H Q _ => ∃ (p q : Addr) (n w : Int) (cs : List Int), vs = [.ref p, .int w] ∧ Sep H [p, q] H [(1, p, .lst [.int n, .ref q]), (1, q, .lst (cs.map V.int))] ∧ Hold n cs ∧ n < 2 ^ 39 ∧ 1 ≤ w ∧ w ≤ 64 ∧
  ∀ (r : Addr) (xs : List V) (n' : Int) (cs' : List Int) (H' : Hp), AllN xs → xs.length ≤ 100 → n' ≤ n + 100 → Hold n' cs' → H r = none → H' r = some (.lst xs) → H' p = some (.lst [.int n', .ref q]) → H' q = some (.lst (cs'.map V.int)) → (∀ b o, H b = some o → b ∉ [p, q] → H' b = some o) → Q (.ref r) H'
def spTT : Sp := fun vs H Q _ => ∃ (p q : Addr) (n : Int) (cs : List Int), vs = [.ref p] ∧ Sep H [p, q] H [(1, p, .lst [.int n, .ref q]), (1, q, .lst (cs.map V.int))] ∧ Hold n cs ∧ n < 2 ^ 39 ∧
  ∀ (r : Addr) (xs : List V) (n' : Int) (cs' : List Int) (H' : Hp), AllN xs → xs.length ≤ 100 → n' ≤ n + 100 → Hold n' cs' → H r = none → H' r = some (.lst xs) → H' p = some (.lst [.int n', .ref q]) → H' q = some (.lst (cs'.map V.int)) → (∀ b o, H b = some o → b ∉ [p, q] → H' b = some o) → Q (.ref r) H'
section
variable {P : Program} {w : World} {K : PySem.W.Frag} {mg : Str → Option Value} {base : Heap}
abbrev s_law_giver_tells : Stmt := (topS 13)
theorem sc_law_giver_tells : FnScope ["_law_hold", "_law_wide", "_law_giver", "_law_found", "_law_many", "_law_at", "_law_lap", "_law_got"] ["_law_hold", "_law_wide"] (defScope s_law_giver_tells) := ⟨rfl, rfl, rfl, by decide +kernel, rfl, by decide +kernel, by decide +kernel⟩
theorem ok_law_giver_tells {f : Addr} {fd : FuncData} {C : Addr} (F : L2.Fun K "_law_giver_tells" "_law_giver_tells" s_law_giver_tells f fd) (cd : Cal P w K mg base CX0 1 "_law_draw" spDraw) (mkg : MakK P w K mg base CX0 1 "Giver" C ["window"] (spGvInit C)) (mput : Met P w K mg base CX0 2 C "put" (spPut0 C)) (mheard : Met P w K mg base CX0 1 C "heard" (spHeard C)) (mshut : Met P w K mg base CX0 1 C "shut" (spShut0 C)) (z_range : mg "range" = none) : FnOk P w K mg base CX0 3 f fd ["_law_hold", "_law_wide"] spGT := by
  refine F.ok sc_law_giver_tells (fun vs H Q E h => ?_) (fun cdv A outer s H0 vs Q E hr h => ?_)
  · obtain ⟨p, q, n, w, cs, rfl, S, hh, hn, hw1, hw2, k⟩ := h
    rfl
  · obtain ⟨p, q, n, w, cs, rfl, S, hh, hn, hw1, hw2, k⟩ := h
    have hu := hu_of hr

    refine ⟨_, pss_cons (ps_par (i := 2) (j := 3) rfl sc_law_giver_tells.nd rfl rfl (by decide) rfl rfl (pa_cons (pe_mkK mkg hr (by decide) (by rfl) pass0 (pk_cons (pv 1) pk_nil)) (pa_cons (pe_lst1 pa_nil) pa_nil)) rfl)
      (pss_cons (ps_set (i := 4) sc_law_giver_tells.nd rfl (.inl rfl) (pe_c cd hr (by decide) (by rfl) pass0 (pa_cons (pv 0) (pa_cons (pe_op op_add (pv 1) (pe_int)) pa_nil))))
      (pss_cons (ps_for PassesOwn.never rfl (pi_range1 (by rfl) z_range (pa_cons (pv 4) pa_nil)) (pg_name (i := 5) sc_law_giver_tells.nd rfl (.inl rfl)) (pss_one (ps_expr (pe_bm PySem.F.plainAttrs_list PySem.F.slot_list_append PySem.F.type_list_append mt_append (pv 3) (pa_cons (pe_mt mput hr (by decide) pass0 (pv 2) (pa_cons (pe_op op_sub (pe_c cd hr (by decide) (by rfl) pass0 (pa_cons (pv 0) (pa_cons (pe_int) pa_nil))) (pe_int)) pa_nil)) pa_nil)))))
      (pss_cons (ps_for PassesOwn.never rfl (pi_range1 (by rfl) z_range (pa_cons (pe_op op_add (pe_int) (pe_c cd hr (by decide) (by rfl) pass0 (pa_cons (pv 0) (pa_cons (pe_int) pa_nil)))) pa_nil)) (pg_name (i := 6) sc_law_giver_tells.nd rfl (.inl rfl)) (pss_cons (ps_set (i := 7) sc_law_giver_tells.nd rfl (.inl rfl) (pe_c cd hr (by decide) (by rfl) pass0 (pa_cons (pv 0) (pa_cons (pe_op op_add (pv 4) (pe_int)) pa_nil))))
      (pss_one (ps_expr (pe_bm PySem.F.plainAttrs_list PySem.F.slot_list_append PySem.F.type_list_append mt_append (pv 3) (pa_cons (pe_mt mheard hr (by decide) pass0 (pv 2) (pa_cons (pv 7) (pa_cons (pe_op op_add (pv 7) (pv 1)) pa_nil))) pa_nil))))))
      (pss_cons (ps_expr (pe_bm PySem.F.plainAttrs_list PySem.F.slot_list_append PySem.F.type_list_append mt_append (pv 3) (pa_cons (pe_mt0 mshut hr (by decide) pass0 (pv 2)) pa_nil)))
      (pss_cons (ps_expr (pe_bm PySem.F.plainAttrs_list PySem.F.slot_list_append PySem.F.type_list_append mt_append (pv 3) (pa_cons (pe_mt mheard hr (by decide) pass0 (pv 2) (pa_cons (pv 4) (pa_cons (pe_op op_add (pv 4) (pv 1)) pa_nil))) pa_nil)))
      (pss_one (ps_ret (pv 3)))))))), ?_⟩
    rw [show start ["_law_hold", "_law_wide", "_law_giver", "_law_found", "_law_many", "_law_at", "_law_lap", "_law_got"] [V.ref p, V.int w] = [some (V.ref p), some (V.int w), none, none, none, none, none, none] from rfl]
    try dsimp only [tSeq, tAsg, gName, tOp, tUn, tCB, tCons, tNil, tCall, tMethK1, tCallK1, tPar3, tRet, tRetN, tDrop, tTest, tB, tC, tNext, tAugS, tAug, sFld1, sFldAug1, tMeth1, tMake, tMakeK1, tSl, tPart, tNoPart, sDPut1, tDPop, tBM, tBM0, tPar, gSub, tChain, tNot, tNotV, tDG1, tDG2, tDNewT1, iKeys1, iEnum1, iList1, iTup1, iRng1, iRng2, List.set_cons_zero, List.set_cons_succ]
    refine x_var (by exact rfl) ?_
    refine c_mkGiver S (fun gv1 xgv1 gl1 H S => ?_)
    refine x_lst S (by exact Nat.le_of_ble_eq_true rfl) (fun L1 H S => ?_)
    refine ⟨_, _, rfl, ?_⟩
    try dsimp only [tSeq, tAsg, gName, tOp, tUn, tCB, tCons, tNil, tCall, tMethK1, tCallK1, tPar3, tRet, tRetN, tDrop, tTest, tB, tC, tNext, tAugS, tAug, sFld1, sFldAug1, tMeth1, tMake, tMakeK1, tSl, tPart, tNoPart, sDPut1, tDPop, tBM, tBM0, tPar, gSub, tChain, tNot, tNotV, tDG1, tDG2, tDNewT1, iKeys1, iEnum1, iList1, iTup1, iRng1, iRng2, List.set_cons_zero, List.set_cons_succ]
    refine x_var (by exact rfl) ?_
    refine x_var (by exact rfl) ?_
    refine x_I0 ?_
    refine c_draw S 3 4 (by exact rfl) (by exact rfl) hh (by first | omega | decide | (simp only [len_insAt, List.length_map, List.length_append, List.length_cons, List.length_nil, List.length_take, List.length_drop] at *; omega)) (by first | omega | decide | (simp only [len_insAt, List.length_map, List.length_append, List.length_cons, List.length_nil, List.length_take, List.length_drop] at *; omega)) (by first | omega | decide | (simp only [len_insAt, List.length_map, List.length_append, List.length_cons, List.length_nil, List.length_take, List.length_drop] at *; omega)) (fun r1 cs1 H r1a r1b hh S => ?_)
    simp only [List.set_cons_zero, List.set_cons_succ] at S
    try dsimp only [tSeq, tAsg, gName, tOp, tUn, tCB, tCons, tNil, tCall, tMethK1, tCallK1, tPar3, tRet, tRetN, tDrop, tTest, tB, tC, tNext, tAugS, tAug, sFld1, sFldAug1, tMeth1, tMake, tMakeK1, tSl, tPart, tNoPart, sDPut1, tDPop, tBM, tBM0, tPar, gSub, tChain, tNot, tNotV, tDG1, tDG2, tDNewT1, iKeys1, iEnum1, iList1, iTup1, iRng1, iRng2, List.set_cons_zero, List.set_cons_succ]
    refine x_for ?_
    try dsimp only [tOp, tUn, tCB, tCons, tNil, tCall, tMethK1, tCallK1, tC, tMeth1, tMake, tMakeK1, tSl, tPart, tNoPart, tDPop, tChain, tNotV, tBM, tBM0, tDG1, tDG2, tDNewT1, iKeys1, iEnum1, iList1, iTup1, iRng1, iRng2]
    refine x_var (by exact rfl) ?_
    refine ⟨_, rfl, by omega, by omega, ?_⟩
    refine forR (fun i σ H1 => ∃ (n1 : Int) (cs1 : List Int) (xs fs : List V) (q1 : Option V), σ = [some (.ref p), some (.int w), some (.ref gv1), some (.ref L1), some (.int r1), q1, none, none] ∧ n1 ≤ n + 1 + i ∧ Hold n1 cs1 ∧ xs.length = i ∧ AllN fs ∧ fs.length = i ∧ Sep H0 [p, q] H1 [(2, gl1, .lst xs), (2, gv1, .ins C xgv1 (F_Giver w 0 gl1 false)), (2, L1, .lst fs), (1, p, .lst [.int n1, .ref q]), (1, q, .lst (cs1.map V.int))]) ?_ ?_ ?_
    · exact ⟨_, _, [], [], _, rfl, by omega, hh, rfl, AllN.nil, rfl, S.sub [1, 2, 0, 3, 4]⟩
    · rintro i σ H hi ⟨n1, cs1, xs, fs, q1, rfl, hn1, hh, hxl, hfa, hfl, S⟩
      try dsimp only [tSeq, tAsg, gName, tOp, tUn, tCB, tCons, tNil, tCall, tMethK1, tCallK1, tPar3, tRet, tRetN, tDrop, tTest, tB, tC, tNext, tAugS, tAug, sFld1, sFldAug1, tMeth1, tMake, tMakeK1, tSl, tPart, tNoPart, sDPut1, tDPop, tBM, tBM0, tPar, gSub, tChain, tNot, tNotV, tDG1, tDG2, tDNewT1, iKeys1, iEnum1, iList1, iTup1, iRng1, iRng2, List.set_cons_zero, List.set_cons_succ]
      try dsimp only [tSeq, tAsg, gName, tOp, tUn, tCB, tCons, tNil, tCall, tMethK1, tCallK1, tPar3, tRet, tRetN, tDrop, tTest, tB, tC, tNext, tAugS, tAug, sFld1, sFldAug1, tMeth1, tMake, tMakeK1, tSl, tPart, tNoPart, sDPut1, tDPop, tBM, tBM0, tPar, gSub, tChain, tNot, tNotV, tDG1, tDG2, tDNewT1, iKeys1, iEnum1, iList1, iTup1, iRng1, iRng2, List.set_cons_zero, List.set_cons_succ]
      refine x_var (by exact rfl) ?_
      refine ⟨x_ty S 2 (by exact rfl), ?_⟩
      refine x_var (by exact rfl) ?_
      refine x_meth S 1 (by exact rfl) nk_Giver_put ?_
      refine x_var (by exact rfl) ?_
      refine c_draw S 3 4 (by exact rfl) (by exact rfl) hh (by first | omega | decide | (simp only [len_insAt, List.length_map, List.length_append, List.length_cons, List.length_nil, List.length_take, List.length_drop] at *; omega)) (by first | omega | decide | (simp only [len_insAt, List.length_map, List.length_append, List.length_cons, List.length_nil, List.length_take, List.length_drop] at *; omega)) (by first | omega | decide | (simp only [len_insAt, List.length_map, List.length_append, List.length_cons, List.length_nil, List.length_take, List.length_drop] at *; omega)) (fun r2 cs2 H r2a r2b hh S => ?_)
      simp only [List.set_cons_zero, List.set_cons_succ] at S
      refine x_I0 ?_
      refine c_put0 S 1 0 (by exact rfl) (by exact rfl) (by first | omega | decide | (simp only [len_insAt, List.length_map, List.length_append, List.length_cons, List.length_nil, List.length_take, List.length_drop] at *; omega)) (by first | omega | decide | (simp only [len_insAt, List.length_map, List.length_append, List.length_cons, List.length_nil, List.length_take, List.length_drop] at *; omega)) (fun H S => ?_)
      simp only [List.set_cons_zero, List.set_cons_succ] at S
      refine x_app S 2 (by exact rfl) (by first | omega | decide | (simp only [len_insAt, List.length_map, List.length_append, List.length_cons, List.length_nil, List.length_take, List.length_drop] at *; omega)) (fun H S => ?_)
      simp only [List.set_cons_zero, List.set_cons_succ] at S
      exact ⟨_, _, _, _, _, rfl, by omega, hh, by rw [List.length_append, hxl]; rfl, hfa.snoc, by rw [List.length_append, hfl]; rfl, S⟩
    · rintro σ H ⟨n1, cs1, xs, fs, q1, rfl, hn1, hh, hxl, hfa, hfl, S⟩
      try dsimp only [tSeq, tAsg, gName, tOp, tUn, tCB, tCons, tNil, tCall, tMethK1, tCallK1, tPar3, tRet, tRetN, tDrop, tTest, tB, tC, tNext, tAugS, tAug, sFld1, sFldAug1, tMeth1, tMake, tMakeK1, tSl, tPart, tNoPart, sDPut1, tDPop, tBM, tBM0, tPar, gSub, tChain, tNot, tNotV, tDG1, tDG2, tDNewT1, iKeys1, iEnum1, iList1, iTup1, iRng1, iRng2, List.set_cons_zero, List.set_cons_succ]
      try dsimp only [tSeq, tAsg, gName, tOp, tUn, tCB, tCons, tNil, tCall, tMethK1, tCallK1, tPar3, tRet, tRetN, tDrop, tTest, tB, tC, tNext, tAugS, tAug, sFld1, sFldAug1, tMeth1, tMake, tMakeK1, tSl, tPart, tNoPart, sDPut1, tDPop, tBM, tBM0, tPar, gSub, tChain, tNot, tNotV, tDG1, tDG2, tDNewT1, iKeys1, iEnum1, iList1, iTup1, iRng1, iRng2, List.set_cons_zero, List.set_cons_succ]
      refine x_for ?_
      try dsimp only [tOp, tUn, tCB, tCons, tNil, tCall, tMethK1, tCallK1, tC, tMeth1, tMake, tMakeK1, tSl, tPart, tNoPart, tDPop, tChain, tNotV, tBM, tBM0, tDG1, tDG2, tDNewT1, iKeys1, iEnum1, iList1, iTup1, iRng1, iRng2]
      refine x_var (by exact rfl) ?_
      refine c_draw S 3 4 (by exact rfl) (by exact rfl) hh (by first | omega | decide | (simp only [len_insAt, List.length_map, List.length_append, List.length_cons, List.length_nil, List.length_take, List.length_drop] at *; omega)) (by first | omega | decide | (simp only [len_insAt, List.length_map, List.length_append, List.length_cons, List.length_nil, List.length_take, List.length_drop] at *; omega)) (by first | omega | decide | (simp only [len_insAt, List.length_map, List.length_append, List.length_cons, List.length_nil, List.length_take, List.length_drop] at *; omega)) (fun r3 cs3 H r3a r3b hh S => ?_)
      simp only [List.set_cons_zero, List.set_cons_succ] at S
      refine x_I0 ?_
      refine ⟨_, rfl, by omega, by omega, ?_⟩
      refine forR (fun i σ H1 => ∃ (n1 : Int) (cs1 : List Int) (b h : Int) (pl : Addr) (xs fs : List V) (q1 q2 q3 : Option V), σ = [some (.ref p), some (.int w), some (.ref gv1), some (.ref L1), some (.int r1), q1, q2, q3] ∧ n1 ≤ n + 80 + i ∧ Hold n1 cs1 ∧ AllN fs ∧ fs.length ≤ 64 + i ∧ Sep H0 [p, q] H1 [(2, pl, .lst xs), (2, gv1, .ins C xgv1 (F_Giver b h pl false)), (2, L1, .lst fs), (1, p, .lst [.int n1, .ref q]), (1, q, .lst (cs1.map V.int))]) ?_ ?_ ?_
      · exact ⟨_, _, _, _, _, _, _, _, _, _, rfl, by omega, hh, hfa, by omega, S.sub [0, 1, 2, 3, 4]⟩
      · rintro i σ H hi ⟨n1, cs1, b, h, pl, xs, fs, q1, q2, q3, rfl, hn1, hh, hfa, hfl, S⟩
        try dsimp only [tSeq, tAsg, gName, tOp, tUn, tCB, tCons, tNil, tCall, tMethK1, tCallK1, tPar3, tRet, tRetN, tDrop, tTest, tB, tC, tNext, tAugS, tAug, sFld1, sFldAug1, tMeth1, tMake, tMakeK1, tSl, tPart, tNoPart, sDPut1, tDPop, tBM, tBM0, tPar, gSub, tChain, tNot, tNotV, tDG1, tDG2, tDNewT1, iKeys1, iEnum1, iList1, iTup1, iRng1, iRng2, List.set_cons_zero, List.set_cons_succ]
        try dsimp only [tSeq, tAsg, gName, tOp, tUn, tCB, tCons, tNil, tCall, tMethK1, tCallK1, tPar3, tRet, tRetN, tDrop, tTest, tB, tC, tNext, tAugS, tAug, sFld1, sFldAug1, tMeth1, tMake, tMakeK1, tSl, tPart, tNoPart, sDPut1, tDPop, tBM, tBM0, tPar, gSub, tChain, tNot, tNotV, tDG1, tDG2, tDNewT1, iKeys1, iEnum1, iList1, iTup1, iRng1, iRng2, List.set_cons_zero, List.set_cons_succ]
        refine x_var (by exact rfl) ?_
        refine x_var (by exact rfl) ?_
        refine x_I0 ?_
        refine c_draw S 3 4 (by exact rfl) (by exact rfl) hh (by first | omega | decide | (simp only [len_insAt, List.length_map, List.length_append, List.length_cons, List.length_nil, List.length_take, List.length_drop] at *; omega)) (by first | omega | decide | (simp only [len_insAt, List.length_map, List.length_append, List.length_cons, List.length_nil, List.length_take, List.length_drop] at *; omega)) (by first | omega | decide | (simp only [len_insAt, List.length_map, List.length_append, List.length_cons, List.length_nil, List.length_take, List.length_drop] at *; omega)) (fun r4 cs4 H r4a r4b hh S => ?_)
        simp only [List.set_cons_zero, List.set_cons_succ] at S
        try dsimp only [tSeq, tAsg, gName, tOp, tUn, tCB, tCons, tNil, tCall, tMethK1, tCallK1, tPar3, tRet, tRetN, tDrop, tTest, tB, tC, tNext, tAugS, tAug, sFld1, sFldAug1, tMeth1, tMake, tMakeK1, tSl, tPart, tNoPart, sDPut1, tDPop, tBM, tBM0, tPar, gSub, tChain, tNot, tNotV, tDG1, tDG2, tDNewT1, iKeys1, iEnum1, iList1, iTup1, iRng1, iRng2, List.set_cons_zero, List.set_cons_succ]
        refine x_var (by exact rfl) ?_
        refine ⟨x_ty S 2 (by exact rfl), ?_⟩
        refine x_var (by exact rfl) ?_
        refine x_meth S 1 (by exact rfl) nk_Giver_heard ?_
        refine x_var (by exact rfl) ?_
        refine x_var (by exact rfl) ?_
        refine x_var (by exact rfl) ?_
        refine x_I0 ?_
        refine c_heard S 1 0 (by exact rfl) (by exact rfl) (fun pl1 H S => ?_)
        simp only [List.set_cons_zero, List.set_cons_succ] at S
        refine x_app S 3 (by exact rfl) (by first | omega | decide | (simp only [len_insAt, List.length_map, List.length_append, List.length_cons, List.length_nil, List.length_take, List.length_drop] at *; omega)) (fun H S => ?_)
        simp only [List.set_cons_zero, List.set_cons_succ] at S
        exact ⟨_, _, _, _, _, _, _, _, _, _, rfl, by omega, hh, hfa.snoc, by rw [List.length_append]; show _ + 1 ≤ _; omega, S.sub [0, 2, 3, 4, 5]⟩
      · rintro σ H ⟨n1, cs1, b, h, pl, xs, fs, q1, q2, q3, rfl, hn1, hh, hfa, hfl, S⟩
        try dsimp only [tSeq, tAsg, gName, tOp, tUn, tCB, tCons, tNil, tCall, tMethK1, tCallK1, tPar3, tRet, tRetN, tDrop, tTest, tB, tC, tNext, tAugS, tAug, sFld1, sFldAug1, tMeth1, tMake, tMakeK1, tSl, tPart, tNoPart, sDPut1, tDPop, tBM, tBM0, tPar, gSub, tChain, tNot, tNotV, tDG1, tDG2, tDNewT1, iKeys1, iEnum1, iList1, iTup1, iRng1, iRng2, List.set_cons_zero, List.set_cons_succ]
        try dsimp only [tSeq, tAsg, gName, tOp, tUn, tCB, tCons, tNil, tCall, tMethK1, tCallK1, tPar3, tRet, tRetN, tDrop, tTest, tB, tC, tNext, tAugS, tAug, sFld1, sFldAug1, tMeth1, tMake, tMakeK1, tSl, tPart, tNoPart, sDPut1, tDPop, tBM, tBM0, tPar, gSub, tChain, tNot, tNotV, tDG1, tDG2, tDNewT1, iKeys1, iEnum1, iList1, iTup1, iRng1, iRng2, List.set_cons_zero, List.set_cons_succ]
        refine x_var (by exact rfl) ?_
        refine ⟨x_ty S 2 (by exact rfl), ?_⟩
        refine x_var (by exact rfl) ?_
        refine x_meth S 1 (by exact rfl) nk_Giver_shut ?_
        refine c_shut0 S 1 (by exact rfl) (fun H S => ?_)
        simp only [List.set_cons_zero, List.set_cons_succ] at S
        refine x_app S 2 (by exact rfl) (by first | omega | decide | (simp only [len_insAt, List.length_map, List.length_append, List.length_cons, List.length_nil, List.length_take, List.length_drop] at *; omega)) (fun H S => ?_)
        simp only [List.set_cons_zero, List.set_cons_succ] at S
        try dsimp only [tSeq, tAsg, gName, tOp, tUn, tCB, tCons, tNil, tCall, tMethK1, tCallK1, tPar3, tRet, tRetN, tDrop, tTest, tB, tC, tNext, tAugS, tAug, sFld1, sFldAug1, tMeth1, tMake, tMakeK1, tSl, tPart, tNoPart, sDPut1, tDPop, tBM, tBM0, tPar, gSub, tChain, tNot, tNotV, tDG1, tDG2, tDNewT1, iKeys1, iEnum1, iList1, iTup1, iRng1, iRng2, List.set_cons_zero, List.set_cons_succ]
        refine x_var (by exact rfl) ?_
        refine ⟨x_ty S 2 (by exact rfl), ?_⟩
        refine x_var (by exact rfl) ?_
        refine x_meth S 1 (by exact rfl) nk_Giver_heard ?_
        refine x_var (by exact rfl) ?_
        refine x_var (by exact rfl) ?_
        refine x_var (by exact rfl) ?_
        refine x_I0 ?_
        refine c_heard S 1 0 (by exact rfl) (by exact rfl) (fun pl2 H S => ?_)
        simp only [List.set_cons_zero, List.set_cons_succ] at S
        refine x_app S 3 (by exact rfl) (by first | omega | decide | (simp only [len_insAt, List.length_map, List.length_append, List.length_cons, List.length_nil, List.length_take, List.length_drop] at *; omega)) (fun H S => ?_)
        simp only [List.set_cons_zero, List.set_cons_succ] at S
        try dsimp only [tSeq, tAsg, gName, tOp, tUn, tCB, tCons, tNil, tCall, tMethK1, tCallK1, tPar3, tRet, tRetN, tDrop, tTest, tB, tC, tNext, tAugS, tAug, sFld1, sFldAug1, tMeth1, tMake, tMakeK1, tSl, tPart, tNoPart, sDPut1, tDPop, tBM, tBM0, tPar, gSub, tChain, tNot, tNotV, tDG1, tDG2, tDNewT1, iKeys1, iEnum1, iList1, iTup1, iRng1, iRng2, List.set_cons_zero, List.set_cons_succ]
        refine x_var (by exact rfl) ?_
        exact k _ _ _ _ _ (hfa.snoc.snoc) (by simp only [List.length_append, List.length_cons, List.length_nil] at *; omega) (by omega) hh (S.new_none 3 rfl) (S.get 3 rfl) (S.get 4 rfl) (S.get 5 rfl) S.fr
abbrev s_law_taker_tells : Stmt := (topS 14)
theorem sc_law_taker_tells : FnScope ["_law_hold", "_law_wide", "_law_taker", "_law_found", "_law_places", "_law_lap", "_law_place"] ["_law_hold", "_law_wide"] (defScope s_law_taker_tells) := ⟨rfl, rfl, rfl, by decide +kernel, rfl, by decide +kernel, by decide +kernel⟩
theorem ok_law_taker_tells {f : Addr} {fd : FuncData} {C : Addr} (F : L2.Fun K "_law_taker_tells" "_law_taker_tells" s_law_taker_tells f fd) (cd : Cal P w K mg base CX0 1 "_law_draw" spDraw) (mk : MakK P w K mg base CX0 1 "Taker" C ["window"] (spTkInit C)) (mcame : Met P w K mg base CX0 1 C "came" (spCame C)) (mends : Met P w K mg base CX0 1 C "ends" (spEnds C)) (z_range : mg "range" = none) (z_max : mg "max" = none) : FnOk P w K mg base CX0 3 f fd ["_law_hold", "_law_wide"] spGT := by
  refine F.ok sc_law_taker_tells (fun vs H Q E h => ?_) (fun cdv A outer s H0 vs Q E hr h => ?_)
  · obtain ⟨p, q, n, w, cs, rfl, S, hh, hn, hw1, hw2, k⟩ := h
    rfl
  · obtain ⟨p, q, n, w, cs, rfl, S, hh, hn, hw1, hw2, k⟩ := h
    have hu := hu_of hr

    refine ⟨_, pss_cons (ps_par3 (i := 2) (j := 3) (l := 4) rfl sc_law_taker_tells.nd rfl rfl rfl (by decide) (by decide) (by decide) rfl rfl rfl (pa_cons (pe_mkK mk hr (by decide) (by rfl) pass0 (pk_cons (pv 1) pk_nil)) (pa_cons (pe_lst1 pa_nil) (pa_cons (pe_lst1 pa_nil) pa_nil))) rfl)
      (pss_cons (ps_for PassesOwn.never rfl (pi_range1 (by rfl) z_range (pa_cons (pe_op op_add (pe_int) (pe_c cd hr (by decide) (by rfl) pass0 (pa_cons (pv 0) (pa_cons (pe_int) pa_nil)))) pa_nil)) (pg_name (i := 5) sc_law_taker_tells.nd rfl (.inl rfl)) (pss_cons (ps_set (i := 6) sc_law_taker_tells.nd rfl (.inl rfl) (pe_c cd hr (by decide) (by rfl) pass0 (pa_cons (pv 0) (pa_cons (pe_op op_add (pv 1) (pe_int)) pa_nil))))
      (pss_cons (ps_expr (pe_bm PySem.F.plainAttrs_list PySem.F.slot_list_append PySem.F.type_list_append mt_append (pv 4) (pa_cons (pv 6) pa_nil)))
      (pss_one (ps_expr (pe_bm PySem.F.plainAttrs_list PySem.F.slot_list_append PySem.F.type_list_append mt_append (pv 3) (pa_cons (pe_mt mcame hr (by decide) pass0 (pv 2) (pa_cons (pv 6) (pa_cons (pe_op op_sub (pe_c cd hr (by decide) (by rfl) pass0 (pa_cons (pv 0) (pa_cons (pe_int) pa_nil))) (pe_int)) pa_nil))) pa_nil)))))))
      (pss_cons (ps_expr (pe_bm PySem.F.plainAttrs_list PySem.F.slot_list_append PySem.F.type_list_append mt_append (pv 3) (pa_cons (pe_mt mends hr (by decide) pass0 (pv 2) (pa_cons (pe_op op_add (pe_callB (cl_maxK K rfl) (by rfl) z_max (by decide +kernel) (pa_cons (pv 4) pa_nil)) (pe_int)) pa_nil)) pa_nil)))
      (pss_cons (ps_expr (pe_bm PySem.F.plainAttrs_list PySem.F.slot_list_append PySem.F.type_list_append mt_append (pv 3) (pa_cons (pe_mt mends hr (by decide) pass0 (pv 2) (pa_cons (pe_op op_add (pe_op op_add (pe_callB (cl_maxK K rfl) (by rfl) z_max (by decide +kernel) (pa_cons (pv 4) pa_nil)) (pe_int)) (pe_c cd hr (by decide) (by rfl) pass0 (pa_cons (pv 0) (pa_cons (pe_int) pa_nil)))) pa_nil)) pa_nil)))
      (pss_cons (ps_expr (pe_bm PySem.F.plainAttrs_list PySem.F.slot_list_append PySem.F.type_list_append mt_append (pv 3) (pa_cons (pe_mt mcame hr (by decide) pass0 (pv 2) (pa_cons (pe_ix (ix_listK K) (pv 4) (pe_int) (fun _ _ => rfl)) (pa_cons (pe_int) pa_nil))) pa_nil)))
      (pss_one (ps_ret (pv 3))))))), ?_⟩
    rw [show start ["_law_hold", "_law_wide", "_law_taker", "_law_found", "_law_places", "_law_lap", "_law_place"] [V.ref p, V.int w] = [some (V.ref p), some (V.int w), none, none, none, none, none] from rfl]
    try dsimp only [tSeq, tAsg, gName, tOp, tUn, tCB, tCons, tNil, tCall, tMethK1, tCallK1, tPar3, tRet, tRetN, tDrop, tTest, tB, tC, tNext, tAugS, tAug, sFld1, sFldAug1, tMeth1, tMake, tMakeK1, tSl, tPart, tNoPart, sDPut1, tDPop, tBM, tBM0, tPar, gSub, tChain, tNot, tNotV, tDG1, tDG2, tDNewT1, iKeys1, iEnum1, iList1, iTup1, iRng1, iRng2, List.set_cons_zero, List.set_cons_succ]
    refine x_var (by exact rfl) ?_
    refine c_mkTaker S (fun o1 xo1 d1 H S => ?_)
    refine x_lst S (by exact Nat.le_of_ble_eq_true rfl) (fun L1 H S => ?_)
    refine x_lst S (by exact Nat.le_of_ble_eq_true rfl) (fun L2 H S => ?_)
    refine ⟨_, _, _, rfl, ?_⟩
    replace S : Sep H0 [p, q] H ((2, L2, .lst (([] : List Int).map V.int)) :: _) := S
    try dsimp only [tSeq, tAsg, gName, tOp, tUn, tCB, tCons, tNil, tCall, tMethK1, tCallK1, tPar3, tRet, tRetN, tDrop, tTest, tB, tC, tNext, tAugS, tAug, sFld1, sFldAug1, tMeth1, tMake, tMakeK1, tSl, tPart, tNoPart, sDPut1, tDPop, tBM, tBM0, tPar, gSub, tChain, tNot, tNotV, tDG1, tDG2, tDNewT1, iKeys1, iEnum1, iList1, iTup1, iRng1, iRng2, List.set_cons_zero, List.set_cons_succ]
    refine x_for ?_
    try dsimp only [tOp, tUn, tCB, tCons, tNil, tCall, tMethK1, tCallK1, tC, tMeth1, tMake, tMakeK1, tSl, tPart, tNoPart, tDPop, tChain, tNotV, tBM, tBM0, tDG1, tDG2, tDNewT1, iKeys1, iEnum1, iList1, iTup1, iRng1, iRng2]
    refine x_var (by exact rfl) ?_
    refine c_draw S 4 5 (by exact rfl) (by exact rfl) hh (by first | omega | decide | (simp only [len_insAt, List.length_map, List.length_append, List.length_cons, List.length_nil, List.length_take, List.length_drop] at *; omega)) (by first | omega | decide | (simp only [len_insAt, List.length_map, List.length_append, List.length_cons, List.length_nil, List.length_take, List.length_drop] at *; omega)) (by first | omega | decide | (simp only [len_insAt, List.length_map, List.length_append, List.length_cons, List.length_nil, List.length_take, List.length_drop] at *; omega)) (fun r1 cs1 H r1a r1b hh S => ?_)
    simp only [List.set_cons_zero, List.set_cons_succ] at S
    refine x_I0 ?_
    refine ⟨_, rfl, by omega, by omega, ?_⟩
    refine forR (fun i σ H1 => ∃ (n1 : Int) (cs1 : List Int) (kv : List (Key × V)) (fs : List V) (ps : List Int) (q1 q2 : Option V), σ = [some (.ref p), some (.int w), some (.ref o1), some (.ref L1), some (.ref L2), q1, q2] ∧ n1 ≤ n + 1 + 2 * i ∧ Hold n1 cs1 ∧ kv.length ≤ i ∧ AllN fs ∧ fs.length = i ∧ ps.length = i ∧ Sep H0 [p, q] H1 [(2, o1, .ins C xo1 (F_Taker w 0 d1 .non)), (2, d1, .dK kv), (2, L1, .lst fs), (2, L2, .lst (ps.map V.int)), (1, p, .lst [.int n1, .ref q]), (1, q, .lst (cs1.map V.int))]) ?_ ?_ ?_
    · exact ⟨_, _, [], [], [], _, _, rfl, by omega, hh, by simp, AllN.nil, rfl, rfl, S.sub [3, 2, 1, 0, 4, 5]⟩
    · rintro i σ H hi ⟨n1, cs1, kv, fs, ps, q1, q2, rfl, hn1, hh, hkl, hfa, hfl, hpl, S⟩
      try dsimp only [tSeq, tAsg, gName, tOp, tUn, tCB, tCons, tNil, tCall, tMethK1, tCallK1, tPar3, tRet, tRetN, tDrop, tTest, tB, tC, tNext, tAugS, tAug, sFld1, sFldAug1, tMeth1, tMake, tMakeK1, tSl, tPart, tNoPart, sDPut1, tDPop, tBM, tBM0, tPar, gSub, tChain, tNot, tNotV, tDG1, tDG2, tDNewT1, iKeys1, iEnum1, iList1, iTup1, iRng1, iRng2, List.set_cons_zero, List.set_cons_succ]
      try dsimp only [tSeq, tAsg, gName, tOp, tUn, tCB, tCons, tNil, tCall, tMethK1, tCallK1, tPar3, tRet, tRetN, tDrop, tTest, tB, tC, tNext, tAugS, tAug, sFld1, sFldAug1, tMeth1, tMake, tMakeK1, tSl, tPart, tNoPart, sDPut1, tDPop, tBM, tBM0, tPar, gSub, tChain, tNot, tNotV, tDG1, tDG2, tDNewT1, iKeys1, iEnum1, iList1, iTup1, iRng1, iRng2, List.set_cons_zero, List.set_cons_succ]
      refine x_var (by exact rfl) ?_
      refine x_var (by exact rfl) ?_
      refine x_I0 ?_
      refine c_draw S 4 5 (by exact rfl) (by exact rfl) hh (by first | omega | decide | (simp only [len_insAt, List.length_map, List.length_append, List.length_cons, List.length_nil, List.length_take, List.length_drop] at *; omega)) (by first | omega | decide | (simp only [len_insAt, List.length_map, List.length_append, List.length_cons, List.length_nil, List.length_take, List.length_drop] at *; omega)) (by first | omega | decide | (simp only [len_insAt, List.length_map, List.length_append, List.length_cons, List.length_nil, List.length_take, List.length_drop] at *; omega)) (fun r2 cs2 H r2a r2b hh S => ?_)
      simp only [List.set_cons_zero, List.set_cons_succ] at S
      try dsimp only [tSeq, tAsg, gName, tOp, tUn, tCB, tCons, tNil, tCall, tMethK1, tCallK1, tPar3, tRet, tRetN, tDrop, tTest, tB, tC, tNext, tAugS, tAug, sFld1, sFldAug1, tMeth1, tMake, tMakeK1, tSl, tPart, tNoPart, sDPut1, tDPop, tBM, tBM0, tPar, gSub, tChain, tNot, tNotV, tDG1, tDG2, tDNewT1, iKeys1, iEnum1, iList1, iTup1, iRng1, iRng2, List.set_cons_zero, List.set_cons_succ]
      refine x_var (by exact rfl) ?_
      refine ⟨x_ty S 3 (by exact rfl), ?_⟩
      refine x_var (by exact rfl) ?_
      refine x_appI S 3 (by exact rfl) (by first | omega | decide | (simp only [len_insAt, List.length_map, List.length_append, List.length_cons, List.length_nil, List.length_take, List.length_drop] at *; omega)) (fun H S => ?_)
      simp only [List.set_cons_zero, List.set_cons_succ] at S
      try dsimp only [tSeq, tAsg, gName, tOp, tUn, tCB, tCons, tNil, tCall, tMethK1, tCallK1, tPar3, tRet, tRetN, tDrop, tTest, tB, tC, tNext, tAugS, tAug, sFld1, sFldAug1, tMeth1, tMake, tMakeK1, tSl, tPart, tNoPart, sDPut1, tDPop, tBM, tBM0, tPar, gSub, tChain, tNot, tNotV, tDG1, tDG2, tDNewT1, iKeys1, iEnum1, iList1, iTup1, iRng1, iRng2, List.set_cons_zero, List.set_cons_succ]
      refine x_var (by exact rfl) ?_
      refine ⟨x_ty S 2 (by exact rfl), ?_⟩
      refine x_var (by exact rfl) ?_
      refine x_meth S 0 (by exact rfl) nk_Taker_came ?_
      refine x_var (by exact rfl) ?_
      refine x_var (by exact rfl) ?_
      refine c_draw S 4 5 (by exact rfl) (by exact rfl) hh (by first | omega | decide | (simp only [len_insAt, List.length_map, List.length_append, List.length_cons, List.length_nil, List.length_take, List.length_drop] at *; omega)) (by first | omega | decide | (simp only [len_insAt, List.length_map, List.length_append, List.length_cons, List.length_nil, List.length_take, List.length_drop] at *; omega)) (by first | omega | decide | (simp only [len_insAt, List.length_map, List.length_append, List.length_cons, List.length_nil, List.length_take, List.length_drop] at *; omega)) (fun r3 cs3 H r3a r3b hh S => ?_)
      simp only [List.set_cons_zero, List.set_cons_succ] at S
      refine x_I0 ?_
      refine c_came S 0 1 (by exact rfl) (by exact rfl) (by omega) (fun H S => ?_)
      simp only [List.set_cons_zero, List.set_cons_succ] at S
      refine x_app S 2 (by exact rfl) (by first | omega | decide | (simp only [len_insAt, List.length_map, List.length_append, List.length_cons, List.length_nil, List.length_take, List.length_drop] at *; omega)) (fun H S => ?_)
      simp only [List.set_cons_zero, List.set_cons_succ] at S
      have hcl := len_cam (t := 0) (w := w) (k := kv) (y := r2) (v := .int (r3 - 500))
      exact ⟨_, _, _, _, _, _, _, rfl, by omega, hh, by omega, hfa.snoc, by rw [List.length_append, hfl]; rfl, by rw [List.length_append, hpl]; rfl, S⟩
    · rintro σ H ⟨n1, cs1, kv, fs, ps, q1, q2, rfl, hn1, hh, hkl, hfa, hfl, hpl, S⟩
      have hps : 0 < ps.length := by omega
      try dsimp only [tSeq, tAsg, gName, tOp, tUn, tCB, tCons, tNil, tCall, tMethK1, tCallK1, tPar3, tRet, tRetN, tDrop, tTest, tB, tC, tNext, tAugS, tAug, sFld1, sFldAug1, tMeth1, tMake, tMakeK1, tSl, tPart, tNoPart, sDPut1, tDPop, tBM, tBM0, tPar, gSub, tChain, tNot, tNotV, tDG1, tDG2, tDNewT1, iKeys1, iEnum1, iList1, iTup1, iRng1, iRng2, List.set_cons_zero, List.set_cons_succ]
      try dsimp only [tSeq, tAsg, gName, tOp, tUn, tCB, tCons, tNil, tCall, tMethK1, tCallK1, tPar3, tRet, tRetN, tDrop, tTest, tB, tC, tNext, tAugS, tAug, sFld1, sFldAug1, tMeth1, tMake, tMakeK1, tSl, tPart, tNoPart, sDPut1, tDPop, tBM, tBM0, tPar, gSub, tChain, tNot, tNotV, tDG1, tDG2, tDNewT1, iKeys1, iEnum1, iList1, iTup1, iRng1, iRng2, List.set_cons_zero, List.set_cons_succ]
      refine x_var (by exact rfl) ?_
      refine ⟨x_ty S 2 (by exact rfl), ?_⟩
      refine x_var (by exact rfl) ?_
      refine x_meth S 0 (by exact rfl) nk_Taker_ends ?_
      refine x_var (by exact rfl) ?_
      refine x_maxL S 3 (by exact rfl) (by first | omega | decide | (simp only [len_insAt, List.length_map, List.length_append, List.length_cons, List.length_nil, List.length_take, List.length_drop] at *; omega)) (fun mx1 hmx1a hmx1b => ?_)
      refine x_I0 ?_
      refine c_ends S 0 (by exact rfl) (fun H S => ?_)
      simp only [List.set_cons_zero, List.set_cons_succ] at S
      refine x_app S 2 (by exact rfl) (by first | omega | decide | (simp only [len_insAt, List.length_map, List.length_append, List.length_cons, List.length_nil, List.length_take, List.length_drop] at *; omega)) (fun H S => ?_)
      simp only [List.set_cons_zero, List.set_cons_succ] at S
      try dsimp only [tSeq, tAsg, gName, tOp, tUn, tCB, tCons, tNil, tCall, tMethK1, tCallK1, tPar3, tRet, tRetN, tDrop, tTest, tB, tC, tNext, tAugS, tAug, sFld1, sFldAug1, tMeth1, tMake, tMakeK1, tSl, tPart, tNoPart, sDPut1, tDPop, tBM, tBM0, tPar, gSub, tChain, tNot, tNotV, tDG1, tDG2, tDNewT1, iKeys1, iEnum1, iList1, iTup1, iRng1, iRng2, List.set_cons_zero, List.set_cons_succ]
      refine x_var (by exact rfl) ?_
      refine ⟨x_ty S 2 (by exact rfl), ?_⟩
      refine x_var (by exact rfl) ?_
      refine x_meth S 0 (by exact rfl) nk_Taker_ends ?_
      refine x_var (by exact rfl) ?_
      refine x_maxL S 3 (by exact rfl) (by first | omega | decide | (simp only [len_insAt, List.length_map, List.length_append, List.length_cons, List.length_nil, List.length_take, List.length_drop] at *; omega)) (fun mx2 hmx2a hmx2b => ?_)
      refine x_I0 ?_
      refine x_var (by exact rfl) ?_
      refine c_draw S 4 5 (by exact rfl) (by exact rfl) hh (by first | omega | decide | (simp only [len_insAt, List.length_map, List.length_append, List.length_cons, List.length_nil, List.length_take, List.length_drop] at *; omega)) (by first | omega | decide | (simp only [len_insAt, List.length_map, List.length_append, List.length_cons, List.length_nil, List.length_take, List.length_drop] at *; omega)) (by first | omega | decide | (simp only [len_insAt, List.length_map, List.length_append, List.length_cons, List.length_nil, List.length_take, List.length_drop] at *; omega)) (fun r4 cs4 H r4a r4b hh S => ?_)
      simp only [List.set_cons_zero, List.set_cons_succ] at S
      refine x_I0 ?_
      refine c_ends S 0 (by exact rfl) (fun H S => ?_)
      simp only [List.set_cons_zero, List.set_cons_succ] at S
      refine x_app S 2 (by exact rfl) (by first | omega | decide | (simp only [len_insAt, List.length_map, List.length_append, List.length_cons, List.length_nil, List.length_take, List.length_drop] at *; omega)) (fun H S => ?_)
      simp only [List.set_cons_zero, List.set_cons_succ] at S
      try dsimp only [tSeq, tAsg, gName, tOp, tUn, tCB, tCons, tNil, tCall, tMethK1, tCallK1, tPar3, tRet, tRetN, tDrop, tTest, tB, tC, tNext, tAugS, tAug, sFld1, sFldAug1, tMeth1, tMake, tMakeK1, tSl, tPart, tNoPart, sDPut1, tDPop, tBM, tBM0, tPar, gSub, tChain, tNot, tNotV, tDG1, tDG2, tDNewT1, iKeys1, iEnum1, iList1, iTup1, iRng1, iRng2, List.set_cons_zero, List.set_cons_succ]
      refine x_var (by exact rfl) ?_
      refine ⟨x_ty S 2 (by exact rfl), ?_⟩
      refine x_var (by exact rfl) ?_
      refine x_meth S 0 (by exact rfl) nk_Taker_came ?_
      refine x_var (by exact rfl) ?_
      refine x_ixI S 3 (by exact rfl) (by decide) (by omega) (fun v1 hv1 => ?_)
      refine c_came S 0 1 (by exact rfl) (by exact rfl) (by omega) (fun H S => ?_)
      simp only [List.set_cons_zero, List.set_cons_succ] at S
      refine x_app S 2 (by exact rfl) (by first | omega | decide | (simp only [len_insAt, List.length_map, List.length_append, List.length_cons, List.length_nil, List.length_take, List.length_drop] at *; omega)) (fun H S => ?_)
      simp only [List.set_cons_zero, List.set_cons_succ] at S
      try dsimp only [tSeq, tAsg, gName, tOp, tUn, tCB, tCons, tNil, tCall, tMethK1, tCallK1, tPar3, tRet, tRetN, tDrop, tTest, tB, tC, tNext, tAugS, tAug, sFld1, sFldAug1, tMeth1, tMake, tMakeK1, tSl, tPart, tNoPart, sDPut1, tDPop, tBM, tBM0, tPar, gSub, tChain, tNot, tNotV, tDG1, tDG2, tDNewT1, iKeys1, iEnum1, iList1, iTup1, iRng1, iRng2, List.set_cons_zero, List.set_cons_succ]
      refine x_var (by exact rfl) ?_
      exact k _ _ _ _ _ (hfa.snoc.snoc.snoc) (by simp only [List.length_append, List.length_cons, List.length_nil] at *; omega) (by omega) hh (S.new_none 2 rfl) (S.get 2 rfl) (S.get 4 rfl) (S.get 5 rfl) S.fr
end
end G

set_option linter.all false
set_option maxRecDepth 100000
set_option maxHeartbeats 4000000
namespace G
open PySem PySem.Spec PyProof.Rows L2
def cN (j : Nat) : Str := (["a", "bb", "zzzzzzzz"] : List Str).getD j ""
theorem cN_of {i : Nat} {y : V} (h : ([.str "a", .str "bb", .str "zzzzzzzz"] : List V)[i]? = some y) : i < 3 ∧ y = .str (cN i) := by
  match i, h with
  | 0, h => cases h; exact ⟨by decide, rfl⟩
  | 1, h => cases h; exact ⟨by decide, rfl⟩
  | 2, h => cases h; exact ⟨by decide, rfl⟩
  | n + 3, h => cases h
theorem cN_ne {i j : Nat} (h : i < j) (h3 : j < 3) : ¬ ((.inr (cN j) : Key) = .inr (cN i)) := by
  rcases (show (i = 0 ∧ j = 1) ∨ (i = 0 ∧ j = 2) ∨ (i = 1 ∧ j = 2) by omega) with ⟨rfl, rfl⟩ | ⟨rfl, rfl⟩ | ⟨rfl, rfl⟩ <;> decide +kernel
theorem cN_at {i : Int} (h0 : 0 ≤ i) (h3 : i < 3) : ∃ s : Str, atI ([.str "a", .str "bb", .str "zzzzzzzz"] : List V) i = some (.str s) := by
  rcases (show i = 0 ∨ i = 1 ∨ i = 2 by omega) with rfl | rfl | rfl <;> exact ⟨_, rfl⟩
theorem all2 {α : Type} {a b : α} {p : α → Prop} (h1 : p a) (h2 : p b) : ∀ u ∈ [a, b], p u := fun u hu => by
  simp only [List.mem_cons, List.not_mem_nil, or_false] at hu
  rcases hu with rfl | rfl <;> assumption
section
variable {P : Program} {w : World} {K : PySem.W.Frag} {mg : Str → Option Value} {base : Heap}
abbrev s_law_table_tells : Stmt := (topS 15)
theorem sc_law_table_tells : FnScope ["_law_hold", "_law_table", "_law_found", "_law_callers", "_law_caller", "_law_lap"] ["_law_hold"] (defScope s_law_table_tells) := ⟨rfl, rfl, rfl, by decide +kernel, rfl, by decide +kernel, by decide +kernel⟩
theorem ok_law_table_tells {f : Addr} {fd : FuncData} {C : Addr} (F : L2.Fun K "_law_table_tells" "_law_table_tells" s_law_table_tells f fd) (cd : Cal P w K mg base CX0 1 "_law_draw" spDraw) (mkt : MakD P w K mg base CX0 1 "Table" C [V.bl true, V.bl true] (spTbInit C)) (mmeet : Met P w K mg base CX0 2 C "meet" (spMeet0 C)) (mlay : Met P w K mg base CX0 1 C "lay" (spLay C)) (z_range : mg "range" = none) : FnOk P w K mg base CX0 3 f fd ["_law_hold"] spTT := by
  refine F.ok sc_law_table_tells (fun vs H Q E h => ?_) (fun cdv A outer s H0 vs Q E hr h => ?_)
  · obtain ⟨p, q, n, cs, rfl, S, hh, hn, k⟩ := h
    rfl
  · obtain ⟨p, q, n, cs, rfl, S, hh, hn, k⟩ := h
    have hu := hu_of hr

    refine ⟨_, pss_cons (ps_par3 (i := 1) (j := 2) (l := 3) rfl sc_law_table_tells.nd rfl rfl rfl (by decide) (by decide) (by decide) rfl rfl rfl (pa_cons (pe_mkD mkt hr (by decide) (by rfl) pass0) (pa_cons (pe_lst1 pa_nil) (pa_cons (pe_lst1 (pa_cons (pe_str) (pa_cons (pe_str) (pa_cons (pe_str) pa_nil)))) pa_nil))) rfl)
      (pss_cons (ps_for PassesOwn.never rfl (pi_listK K (pv 3)) (pg_name (i := 4) sc_law_table_tells.nd rfl (.inl rfl)) (pss_one (ps_expr (pe_mt mmeet hr (by decide) pass0 (pv 1) (pa_cons (pv 4) (pa_cons (pe_op op_add (pe_int) (pe_c cd hr (by decide) (by rfl) pass0 (pa_cons (pv 0) (pa_cons (pe_int) pa_nil)))) (pa_cons (pe_int) pa_nil)))))))
      (pss_cons (ps_for PassesOwn.never rfl (pi_range1 (by rfl) z_range (pa_cons (pe_op op_add (pe_int) (pe_c cd hr (by decide) (by rfl) pass0 (pa_cons (pv 0) (pa_cons (pe_int) pa_nil)))) pa_nil)) (pg_name (i := 5) sc_law_table_tells.nd rfl (.inl rfl)) (pss_one (ps_expr (pe_bm PySem.F.plainAttrs_list PySem.F.slot_list_append PySem.F.type_list_append mt_append (pv 2) (pa_cons (pe_mt mlay hr (by decide) pass0 (pv 1) (pa_cons (pe_ix (ix_listK K) (pv 3) (pe_c cd hr (by decide) (by rfl) pass0 (pa_cons (pv 0) (pa_cons (pe_int) pa_nil))) (fun _ _ => rfl)) (pa_cons (pe_op op_add (pe_int) (pe_c cd hr (by decide) (by rfl) pass0 (pa_cons (pv 0) (pa_cons (pe_int) pa_nil)))) (pa_cons (pe_c cd hr (by decide) (by rfl) pass0 (pa_cons (pv 0) (pa_cons (pe_int) pa_nil))) pa_nil)))) pa_nil)))))
      (pss_one (ps_ret (pv 2))))), ?_⟩
    rw [show start ["_law_hold", "_law_table", "_law_found", "_law_callers", "_law_caller", "_law_lap"] [V.ref p] = [some (V.ref p), none, none, none, none, none] from rfl]
    try dsimp only [tSeq, tAsg, gName, tOp, tUn, tCB, tCons, tNil, tCall, tMethK1, tCallK1, tPar3, tRet, tRetN, tDrop, tTest, tB, tC, tNext, tAugS, tAug, sFld1, sFldAug1, tMeth1, tMake, tMakeK1, tSl, tPart, tNoPart, sDPut1, tDPop, tBM, tBM0, tPar, gSub, tChain, tNot, tNotV, tDG1, tDG2, tDNewT1, iKeys1, iEnum1, iList1, iTup1, iRng1, iRng2, List.set_cons_zero, List.set_cons_succ]
    refine c_mkTable0 S (fun ta1 xta1 tm1 tt1 H S => ?_)
    refine x_lst S (by exact Nat.le_of_ble_eq_true rfl) (fun L1 H S => ?_)
    refine x_lst S (by exact Nat.le_of_ble_eq_true rfl) (fun L2 H S => ?_)
    refine ⟨_, _, _, rfl, ?_⟩
    try dsimp only [tSeq, tAsg, gName, tOp, tUn, tCB, tCons, tNil, tCall, tMethK1, tCallK1, tPar3, tRet, tRetN, tDrop, tTest, tB, tC, tNext, tAugS, tAug, sFld1, sFldAug1, tMeth1, tMake, tMakeK1, tSl, tPart, tNoPart, sDPut1, tDPop, tBM, tBM0, tPar, gSub, tChain, tNot, tNotV, tDG1, tDG2, tDNewT1, iKeys1, iEnum1, iList1, iTup1, iRng1, iRng2, List.set_cons_zero, List.set_cons_succ]
    refine x_for ?_
    try dsimp only [tOp, tUn, tCB, tCons, tNil, tCall, tMethK1, tCallK1, tC, tMeth1, tMake, tMakeK1, tSl, tPart, tNoPart, tDPop, tChain, tNotV, tBM, tBM0, tDG1, tDG2, tDNewT1, iKeys1, iEnum1, iList1, iTup1, iRng1, iRng2]
    refine x_var (by exact rfl) ?_
    refine x_ilist S 0 (by exact rfl) ?_
    refine forL (xs := [.str "a", .str "bb", .str "zzzzzzzz"]) (fun i σ H1 => ∃ (n1 : Int) (cs1 : List Int) (mk : List (Key × V)) (q1 : Option V), σ = [some (.ref p), some (.ref ta1), some (.ref L1), some (.ref L2), q1, none] ∧ n1 ≤ n + i ∧ Hold n1 cs1 ∧ mk.length ≤ i ∧ i ≤ 3 ∧ (∀ j, i ≤ j → j < 3 → valV mk (.inr (cN j) : Key) = none) ∧ Sep H0 [p, q] H1 [(2, ta1, .ins C xta1 (F_Table true true tm1 tt1)), (2, tm1, .dK mk), (2, tt1, .dT []), (2, L1, .lst []), (2, L2, .lst [.str "a", .str "bb", .str "zzzzzzzz"]), (1, p, .lst [.int n1, .ref q]), (1, q, .lst (cs1.map V.int))]) ?_ ?_ ?_ ?_
    · exact ⟨_, _, [], _, rfl, by omega, hh, by simp, by omega, fun j _ _ => rfl, S.sub [4, 3, 2, 1, 0, 5, 6]⟩
    · rintro i σ H hi ⟨n1, cs1, mk, q1, rfl, hn1, hh, hml, hi3, hmet, S⟩
      exact S.sl 4 rfl
    · rintro i y σ H hi ⟨n1, cs1, mk, q1, rfl, hn1, hh, hml, hi3, hmet, S⟩
      obtain ⟨hi2, rfl⟩ : i < 3 ∧ y = .str (cN i) := cN_of hi
      try dsimp only [tSeq, tAsg, gName, tOp, tUn, tCB, tCons, tNil, tCall, tMethK1, tCallK1, tPar3, tRet, tRetN, tDrop, tTest, tB, tC, tNext, tAugS, tAug, sFld1, sFldAug1, tMeth1, tMake, tMakeK1, tSl, tPart, tNoPart, sDPut1, tDPop, tBM, tBM0, tPar, gSub, tChain, tNot, tNotV, tDG1, tDG2, tDNewT1, iKeys1, iEnum1, iList1, iTup1, iRng1, iRng2, List.set_cons_zero, List.set_cons_succ]
      try dsimp only [tSeq, tAsg, gName, tOp, tUn, tCB, tCons, tNil, tCall, tMethK1, tCallK1, tPar3, tRet, tRetN, tDrop, tTest, tB, tC, tNext, tAugS, tAug, sFld1, sFldAug1, tMeth1, tMake, tMakeK1, tSl, tPart, tNoPart, sDPut1, tDPop, tBM, tBM0, tPar, gSub, tChain, tNot, tNotV, tDG1, tDG2, tDNewT1, iKeys1, iEnum1, iList1, iTup1, iRng1, iRng2, List.set_cons_zero, List.set_cons_succ]
      refine x_var (by exact rfl) ?_
      refine x_meth S 0 (by exact rfl) nk_Table_meet ?_
      refine x_var (by exact rfl) ?_
      refine x_var (by exact rfl) ?_
      refine c_draw S 5 6 (by exact rfl) (by exact rfl) hh (by first | omega | decide | (simp only [len_insAt, List.length_map, List.length_append, List.length_cons, List.length_nil, List.length_take, List.length_drop] at *; omega)) (by first | omega | decide | (simp only [len_insAt, List.length_map, List.length_append, List.length_cons, List.length_nil, List.length_take, List.length_drop] at *; omega)) (by first | omega | decide | (simp only [len_insAt, List.length_map, List.length_append, List.length_cons, List.length_nil, List.length_take, List.length_drop] at *; omega)) (fun r1 cs1 H r1a r1b hh S => ?_)
      simp only [List.set_cons_zero, List.set_cons_succ] at S
      refine x_I0 ?_
      refine ⟨_, _, _, _, _, _, _, _, _, _, rfl, S.pre [(0, 0), (1, 1), (1, 2)], hmet i (Nat.le_refl _) hi2, by omega, by omega, fun rv mt H e1 e2 F => ?_⟩
      have S := S.chgs (H' := H) [(1, 2, tm1, .dK (putK mk (.inr (cN i)) (.ref mt))), (2, 2, tt1, .dT [])] (by exact all2 ⟨_, rfl⟩ ⟨_, rfl⟩) (by exact all2 (.inr rfl) (.inr rfl)) (by show List.Nodup [1, 2]; decide) (by exact F) (by exact all2 e1 e2)
      simp only [List.foldl, List.set_cons_zero, List.set_cons_succ] at S
      exact ⟨_, _, _, _, rfl, by omega, hh, Nat.le_trans (length_putK _ _ _) (by omega), by omega, fun j h1 h2 => by rw [valV_put, if_neg (cN_ne (by omega) h2)]; exact hmet j (by omega) h2, S.sub [0, 1, 2, 3, 4, 5, 6]⟩
    · rintro σ H ⟨n1, cs1, mk, q1, rfl, hn1, hh, hml, hi3, hmet, S⟩
      try dsimp only [tSeq, tAsg, gName, tOp, tUn, tCB, tCons, tNil, tCall, tMethK1, tCallK1, tPar3, tRet, tRetN, tDrop, tTest, tB, tC, tNext, tAugS, tAug, sFld1, sFldAug1, tMeth1, tMake, tMakeK1, tSl, tPart, tNoPart, sDPut1, tDPop, tBM, tBM0, tPar, gSub, tChain, tNot, tNotV, tDG1, tDG2, tDNewT1, iKeys1, iEnum1, iList1, iTup1, iRng1, iRng2, List.set_cons_zero, List.set_cons_succ]
      try dsimp only [tSeq, tAsg, gName, tOp, tUn, tCB, tCons, tNil, tCall, tMethK1, tCallK1, tPar3, tRet, tRetN, tDrop, tTest, tB, tC, tNext, tAugS, tAug, sFld1, sFldAug1, tMeth1, tMake, tMakeK1, tSl, tPart, tNoPart, sDPut1, tDPop, tBM, tBM0, tPar, gSub, tChain, tNot, tNotV, tDG1, tDG2, tDNewT1, iKeys1, iEnum1, iList1, iTup1, iRng1, iRng2, List.set_cons_zero, List.set_cons_succ]
      refine x_for ?_
      try dsimp only [tOp, tUn, tCB, tCons, tNil, tCall, tMethK1, tCallK1, tC, tMeth1, tMake, tMakeK1, tSl, tPart, tNoPart, tDPop, tChain, tNotV, tBM, tBM0, tDG1, tDG2, tDNewT1, iKeys1, iEnum1, iList1, iTup1, iRng1, iRng2]
      refine x_var (by exact rfl) ?_
      refine c_draw S 5 6 (by exact rfl) (by exact rfl) hh (by first | omega | decide | (simp only [len_insAt, List.length_map, List.length_append, List.length_cons, List.length_nil, List.length_take, List.length_drop] at *; omega)) (by first | omega | decide | (simp only [len_insAt, List.length_map, List.length_append, List.length_cons, List.length_nil, List.length_take, List.length_drop] at *; omega)) (by first | omega | decide | (simp only [len_insAt, List.length_map, List.length_append, List.length_cons, List.length_nil, List.length_take, List.length_drop] at *; omega)) (fun r2 cs2 H r2a r2b hh S => ?_)
      simp only [List.set_cons_zero, List.set_cons_succ] at S
      refine x_I0 ?_
      refine ⟨_, rfl, by omega, by omega, ?_⟩
      refine forR (fun i σ H1 => ∃ (n1 : Int) (cs1 : List Int) (tk : List (List Key × V)) (fs : List V) (q1 q2 : Option V), σ = [some (.ref p), some (.ref ta1), some (.ref L1), some (.ref L2), q1, q2] ∧ n1 ≤ n + 4 + 3 * i ∧ Hold n1 cs1 ∧ tk.length ≤ i ∧ AllN fs ∧ fs.length = i ∧ Sep H0 [p, q] H1 [(2, ta1, .ins C xta1 (F_Table true true tm1 tt1)), (2, tm1, .dK mk), (2, tt1, .dT tk), (2, L1, .lst fs), (2, L2, .lst [.str "a", .str "bb", .str "zzzzzzzz"]), (1, p, .lst [.int n1, .ref q]), (1, q, .lst (cs1.map V.int))]) ?_ ?_ ?_
      · exact ⟨_, _, [], [], _, _, rfl, by omega, hh, by simp, AllN.nil, rfl, S.sub [0, 1, 2, 3, 4, 5, 6]⟩
      · rintro i σ H hi ⟨n1, cs1, tk, fs, q1, q2, rfl, hn1, hh, htl, hfa, hfl, S⟩
        try dsimp only [tSeq, tAsg, gName, tOp, tUn, tCB, tCons, tNil, tCall, tMethK1, tCallK1, tPar3, tRet, tRetN, tDrop, tTest, tB, tC, tNext, tAugS, tAug, sFld1, sFldAug1, tMeth1, tMake, tMakeK1, tSl, tPart, tNoPart, sDPut1, tDPop, tBM, tBM0, tPar, gSub, tChain, tNot, tNotV, tDG1, tDG2, tDNewT1, iKeys1, iEnum1, iList1, iTup1, iRng1, iRng2, List.set_cons_zero, List.set_cons_succ]
        try dsimp only [tSeq, tAsg, gName, tOp, tUn, tCB, tCons, tNil, tCall, tMethK1, tCallK1, tPar3, tRet, tRetN, tDrop, tTest, tB, tC, tNext, tAugS, tAug, sFld1, sFldAug1, tMeth1, tMake, tMakeK1, tSl, tPart, tNoPart, sDPut1, tDPop, tBM, tBM0, tPar, gSub, tChain, tNot, tNotV, tDG1, tDG2, tDNewT1, iKeys1, iEnum1, iList1, iTup1, iRng1, iRng2, List.set_cons_zero, List.set_cons_succ]
        refine x_var (by exact rfl) ?_
        refine ⟨x_ty S 3 (by exact rfl), ?_⟩
        refine x_var (by exact rfl) ?_
        refine x_meth S 0 (by exact rfl) nk_Table_lay ?_
        refine x_var (by exact rfl) ?_
        refine x_var (by exact rfl) ?_
        refine c_draw S 5 6 (by exact rfl) (by exact rfl) hh (by first | omega | decide | (simp only [len_insAt, List.length_map, List.length_append, List.length_cons, List.length_nil, List.length_take, List.length_drop] at *; omega)) (by first | omega | decide | (simp only [len_insAt, List.length_map, List.length_append, List.length_cons, List.length_nil, List.length_take, List.length_drop] at *; omega)) (by first | omega | decide | (simp only [len_insAt, List.length_map, List.length_append, List.length_cons, List.length_nil, List.length_take, List.length_drop] at *; omega)) (fun r3 cs3 H r3a r3b hh S => ?_)
        simp only [List.set_cons_zero, List.set_cons_succ] at S
        obtain ⟨sn, hsn⟩ := cN_at (i := r3) (by omega) (by omega)
        refine x_ixF S 4 (by exact rfl) hsn ?_
        refine x_var (by exact rfl) ?_
        refine c_draw S 5 6 (by exact rfl) (by exact rfl) hh (by first | omega | decide | (simp only [len_insAt, List.length_map, List.length_append, List.length_cons, List.length_nil, List.length_take, List.length_drop] at *; omega)) (by first | omega | decide | (simp only [len_insAt, List.length_map, List.length_append, List.length_cons, List.length_nil, List.length_take, List.length_drop] at *; omega)) (by first | omega | decide | (simp only [len_insAt, List.length_map, List.length_append, List.length_cons, List.length_nil, List.length_take, List.length_drop] at *; omega)) (fun r4 cs4 H r4a r4b hh S => ?_)
        simp only [List.set_cons_zero, List.set_cons_succ] at S
        refine x_I0 ?_
        refine x_var (by exact rfl) ?_
        refine c_draw S 5 6 (by exact rfl) (by exact rfl) hh (by first | omega | decide | (simp only [len_insAt, List.length_map, List.length_append, List.length_cons, List.length_nil, List.length_take, List.length_drop] at *; omega)) (by first | omega | decide | (simp only [len_insAt, List.length_map, List.length_append, List.length_cons, List.length_nil, List.length_take, List.length_drop] at *; omega)) (by first | omega | decide | (simp only [len_insAt, List.length_map, List.length_append, List.length_cons, List.length_nil, List.length_take, List.length_drop] at *; omega)) (fun r5 cs5 H r5a r5b hh S => ?_)
        simp only [List.set_cons_zero, List.set_cons_succ] at S
        refine c_lay S 0 2 (by exact rfl) (by exact rfl) (by omega) (fun H S => ?_)
        simp only [List.set_cons_zero, List.set_cons_succ] at S
        refine x_app S 3 (by exact rfl) (by first | omega | decide | (simp only [len_insAt, List.length_map, List.length_append, List.length_cons, List.length_nil, List.length_take, List.length_drop] at *; omega)) (fun H S => ?_)
        simp only [List.set_cons_zero, List.set_cons_succ] at S
        exact ⟨_, _, _, _, _, _, rfl, by omega, hh, Nat.le_trans (length_putK _ _ _) (by omega), hfa.snoc, by rw [List.length_append, hfl]; rfl, S⟩
      · rintro σ H ⟨n1, cs1, tk, fs, q1, q2, rfl, hn1, hh, htl, hfa, hfl, S⟩
        try dsimp only [tSeq, tAsg, gName, tOp, tUn, tCB, tCons, tNil, tCall, tMethK1, tCallK1, tPar3, tRet, tRetN, tDrop, tTest, tB, tC, tNext, tAugS, tAug, sFld1, sFldAug1, tMeth1, tMake, tMakeK1, tSl, tPart, tNoPart, sDPut1, tDPop, tBM, tBM0, tPar, gSub, tChain, tNot, tNotV, tDG1, tDG2, tDNewT1, iKeys1, iEnum1, iList1, iTup1, iRng1, iRng2, List.set_cons_zero, List.set_cons_succ]
        try dsimp only [tSeq, tAsg, gName, tOp, tUn, tCB, tCons, tNil, tCall, tMethK1, tCallK1, tPar3, tRet, tRetN, tDrop, tTest, tB, tC, tNext, tAugS, tAug, sFld1, sFldAug1, tMeth1, tMake, tMakeK1, tSl, tPart, tNoPart, sDPut1, tDPop, tBM, tBM0, tPar, gSub, tChain, tNot, tNotV, tDG1, tDG2, tDNewT1, iKeys1, iEnum1, iList1, iTup1, iRng1, iRng2, List.set_cons_zero, List.set_cons_succ]
        refine x_var (by exact rfl) ?_
        exact k _ _ _ _ _ hfa (by omega) (by omega) hh (S.new_none 3 rfl) (S.get 3 rfl) (S.get 5 rfl) (S.get 6 rfl) S.fr
end
end G

set_option linter.all false
set_option maxRecDepth 100000
set_option maxHeartbeats 4000000
namespace G
open PySem PySem.Spec PyProof.Rows L2
theorem Sep.gots {H0 H H' : Hp} {ft : List Addr} {l : List Cell} {r : Addr} {o : HO} (S : Sep H0 ft H l) (us : List (Nat × Cell)) (hi : ∀ u ∈ us, ∃ o, l[u.1]? = some (u.2.1, u.2.2.1, o)) (ht : ∀ u ∈ us, u.2.1 = 1 ∨ u.2.1 = 2) (hn : (us.map (·.1)).Nodup)
    (F : ∀ b o, H b = some o → b ∉ us.map (·.2.2.1) → H' b = some o) (he : ∀ u ∈ us, H' u.2.2.1 = some u.2.2.2) (nr : H r = none) (er : H' r = some o) : Sep H0 ft H' ((2, r, o) :: us.foldl (fun l u => l.set u.1 u.2) l) := by
  refine S.got (S.chgs us hi ht hn F he) ?_ nr er
  clear S F he nr er
  induction us generalizing l with
  | nil => rfl
  | cons u us ih =>
    obtain ⟨n1, n2⟩ := List.nodup_cons.mp hn
    rw [List.foldl_cons, ih (fun v hv => ?_) (fun v hv => ht v (List.mem_cons_of_mem _ hv)) n2]
    · obtain ⟨o, ho⟩ := hi u List.mem_cons_self
      exact map_set ho
    · obtain ⟨o, ho⟩ := hi v (List.mem_cons_of_mem _ hv)
      exact ⟨o, by rw [List.getElem?_set_ne (fun z => n1 (List.mem_map.mpr ⟨v, hv, z.symm⟩))]; exact ho⟩

def spLaw (K : PySem.W.Frag) : Sp := fun vs H Q _ => ∃ (a : Addr) (ns : List Int), vs = [.ref a] ∧ SqL K H a (ns.map V.int) ∧ ns.length ≤ 63 ∧ ∀ H', Q (.bl true) H'
section
variable {P : Program} {w : World} {K : PySem.W.Frag} {mg : Str → Option Value} {base : Heap}
abbrev s_law : Stmt := (topS 16)
theorem sc_law : FnScope ["_law_script", "_law_hold", "_law_turn", "_law_wide", "_law_found", "_law_cell", "_law_one"] ["_law_script"] (defScope s_law) := ⟨rfl, rfl, rfl, by decide +kernel, rfl, by decide +kernel, by decide +kernel⟩
theorem ok_law {f : Addr} {fd : FuncData} (F : L2.Fun K "law" "law" s_law f fd) (cd : Cal P w K mg base CX0 1 "_law_draw" spDraw) (cgt : Cal P w K mg base CX0 3 "_law_giver_tells" spGT) (ctt : Cal P w K mg base CX0 3 "_law_taker_tells" spGT) (cbt : Cal P w K mg base CX0 3 "_law_table_tells" spTT) (z_abs : mg "abs" = none) (z_range : mg "range" = none) (z_max : mg "max" = none) (z_min : mg "min" = none) (z_len : mg "len" = none) : FnOk P w K mg base CX0 4 f fd ["_law_script"] (spLaw K) := by
  refine F.ok sc_law (fun vs H Q E h => ?_) (fun cdv A outer s H0 vs Q E hr h => ?_)
  · obtain ⟨a, ns, rfl, hs, hl, k⟩ := h
    rfl
  · obtain ⟨a, ns, rfl, hs, hl, k⟩ := h
    have hu := hu_of hr
    have S := Sep.of0 (H := H0)
    refine ⟨_, pss_cons (ps_set (i := 1) sc_law.nd rfl (.inl rfl) (pe_lst1 (pa_cons (pe_int) (pa_cons (pe_orT (pe_lc (own := [("_law_cell", 5)]) (g := gName 5) rfl sc_law.nd (pi_listK K (pe_slice (sl_listK K) (pv 0) po_none (po_some (pe_int)))) (blkOk_by (N := ["_law_script", "_law_hold", "_law_turn", "_law_wide", "_law_found", "_law_cell", "_law_one"]) (sc := defScope s_law) (by decide +kernel)) (fun _ _ _ _ _ => pg_name (i := 5) sc_law.nd rfl (.inl rfl)) (fun _ _ _ _ _ => pts_nil) (fun _ _ _ _ _ => pe_callB cl_abs (by rfl) z_abs (by decide +kernel) (pa_cons (pv 5) pa_nil))) (pe_one (pe_lst1 (pa_cons (pe_int) pa_nil)))) pa_nil))))
      (pss_cons (ps_for PassesOwn.never rfl (pi_range1 (by rfl) z_range (pa_cons (pe_callB (cl_max rfl) (by rfl) z_max (by decide +kernel) (pa_cons (pe_int) (pa_cons (pe_callB (cl_min rfl) (by rfl) z_min (by decide +kernel) (pa_cons (pe_int) (pa_cons (pe_callB (cl_lenK K) (by rfl) z_len PySem.boot_len (pa_cons (pv 0) pa_nil)) pa_nil))) pa_nil))) pa_nil)) (pg_name (i := 2) sc_law.nd rfl (.inl rfl)) (pss_cons (ps_set (i := 3) sc_law.nd rfl (.inl rfl) (pe_ix (ix_listK K) (pe_lst1 (pa_cons (pe_int) (pa_cons (pe_int) (pa_cons (pe_int) (pa_cons (pe_int) (pa_cons (pe_op op_add (pe_int) (pe_c cd hr (by decide) (by rfl) pass0 (pa_cons (pv 1) (pa_cons (pe_int) pa_nil)))) pa_nil)))))) (pe_c cd hr (by decide) (by rfl) pass0 (pa_cons (pv 1) (pa_cons (pe_int) pa_nil))) (fun _ _ => rfl)))
      (pss_cons (ps_set (i := 4) sc_law.nd rfl (.inl rfl) (pe_op op_cat (pe_op op_cat (pe_c cgt hr (by decide) (by rfl) pass0 (pa_cons (pv 1) (pa_cons (pv 3) pa_nil))) (pe_c ctt hr (by decide) (by rfl) pass0 (pa_cons (pv 1) (pa_cons (pv 3) pa_nil)))) (pe_c cbt hr (by decide) (by rfl) pass0 (pa_cons (pv 1) pa_nil))))
      (pss_one (ps_if (pt_cmpR (op_neDK K hr.units) (pe_lc (own := [("_law_one", 6)]) (g := gName 6) rfl sc_law.nd (pi_listK K (pv 4)) (blkOk_by (N := ["_law_script", "_law_hold", "_law_turn", "_law_wide", "_law_found", "_law_cell", "_law_one"]) (sc := defScope s_law) (by decide +kernel)) (fun _ _ _ _ _ => pg_name (i := 6) sc_law.nd rfl (.inl rfl)) (fun _ _ _ _ _ => pts_one (pt_cmpR op_notN (pv 6) (pe_non) (nomark _))) (fun _ _ _ _ _ => pe_never)) (pe_lst1 pa_nil) (nomark _)) (pss_one (ps_never)) (pss_nil))))))
      (pss_one (ps_ret (pe_bl)))), ?_⟩
    rw [show start ["_law_script", "_law_hold", "_law_turn", "_law_wide", "_law_found", "_law_cell", "_law_one"] [V.ref a] = [some (V.ref a), none, none, none, none, none, none] from rfl]
    try dsimp only [tSeq, tAsg, gName, tOp, tUn, tCB, tCons, tNil, tCall, tMethK1, tCallK1, tPar3, tRet, tRetN, tDrop, tTest, tB, tC, tNext, tAugS, tAug, sFld1, sFldAug1, tMeth1, tMake, tMakeK1, tSl, tPart, tNoPart, sDPut1, tDPop, tBM, tBM0, tPar, gSub, tChain, tNot, tNotV, tDG1, tDG2, tDNewT1, iKeys1, iEnum1, iList1, iTup1, iRng1, iRng2, List.set_cons_zero, List.set_cons_succ]
    refine x_join _ (fun v H' => ∃ (q : Addr) (cs : List Int), v = .ref q ∧ Hold 0 cs ∧ Sep H0 [] H' [(2, q, .lst (cs.map V.int))]) ?_ (fun KK => ?_)
    · rintro v H ⟨hq, cs, rfl, hh, S⟩
      refine x_lst S (by exact Nat.le_of_ble_eq_true rfl) (fun L1 H S => ?_)
      try dsimp only [tSeq, tAsg, gName, tOp, tUn, tCB, tCons, tNil, tCall, tMethK1, tCallK1, tPar3, tRet, tRetN, tDrop, tTest, tB, tC, tNext, tAugS, tAug, sFld1, sFldAug1, tMeth1, tMake, tMakeK1, tSl, tPart, tNoPart, sDPut1, tDPop, tBM, tBM0, tPar, gSub, tChain, tNot, tNotV, tDG1, tDG2, tDNewT1, iKeys1, iEnum1, iList1, iTup1, iRng1, iRng2, List.set_cons_zero, List.set_cons_succ]
      refine x_for ?_
      try dsimp only [tOp, tUn, tCB, tCons, tNil, tCall, tMethK1, tCallK1, tC, tMeth1, tMake, tMakeK1, tSl, tPart, tNoPart, tDPop, tChain, tNotV, tBM, tBM0, tDG1, tDG2, tDNewT1, iKeys1, iEnum1, iList1, iTup1, iRng1, iRng2]
      refine x_var (by exact rfl) ?_
      refine x_lenS (S.sq hs (by simp)) ?_
      refine x_min ?_
      refine x_max ?_
      refine ⟨_, rfl, by omega, by omega, ?_⟩
      refine forR (fun i σ H1 => ∃ (n : Int) (cs : List Int) (q1 q2 q3 : Option V), σ = [some (.ref a), some (.ref L1), q1, q2, q3, none, none] ∧ n ≤ 310 * i ∧ i ≤ 40 ∧ Hold n cs ∧ Sep H0 [] H1 [(2, L1, .lst [.int n, .ref hq]), (2, hq, .lst (cs.map V.int))]) ?_ ?_ ?_
      · exact ⟨_, _, _, _, _, rfl, by omega, by omega, hh, S.sub [0, 1]⟩
      · rintro i σ H hi ⟨n, cs, q1, q2, q3, rfl, hn, hi40, hh, S⟩
        try dsimp only [tSeq, tAsg, gName, tOp, tUn, tCB, tCons, tNil, tCall, tMethK1, tCallK1, tPar3, tRet, tRetN, tDrop, tTest, tB, tC, tNext, tAugS, tAug, sFld1, sFldAug1, tMeth1, tMake, tMakeK1, tSl, tPart, tNoPart, sDPut1, tDPop, tBM, tBM0, tPar, gSub, tChain, tNot, tNotV, tDG1, tDG2, tDNewT1, iKeys1, iEnum1, iList1, iTup1, iRng1, iRng2, List.set_cons_zero, List.set_cons_succ]
        try dsimp only [tSeq, tAsg, gName, tOp, tUn, tCB, tCons, tNil, tCall, tMethK1, tCallK1, tPar3, tRet, tRetN, tDrop, tTest, tB, tC, tNext, tAugS, tAug, sFld1, sFldAug1, tMeth1, tMake, tMakeK1, tSl, tPart, tNoPart, sDPut1, tDPop, tBM, tBM0, tPar, gSub, tChain, tNot, tNotV, tDG1, tDG2, tDNewT1, iKeys1, iEnum1, iList1, iTup1, iRng1, iRng2, List.set_cons_zero, List.set_cons_succ]
        refine x_var (by exact rfl) ?_
        refine c_draw S 0 1 (by exact rfl) (by exact rfl) hh (by first | omega | decide | (simp only [len_insAt, List.length_map, List.length_append, List.length_cons, List.length_nil, List.length_take, List.length_drop] at *; omega)) (by first | omega | decide | (simp only [len_insAt, List.length_map, List.length_append, List.length_cons, List.length_nil, List.length_take, List.length_drop] at *; omega)) (by first | omega | decide | (simp only [len_insAt, List.length_map, List.length_append, List.length_cons, List.length_nil, List.length_take, List.length_drop] at *; omega)) (fun r1 cs1 H r1a r1b hh S => ?_)
        simp only [List.set_cons_zero, List.set_cons_succ] at S
        refine x_I0 ?_
        refine x_lst S (by exact Nat.le_of_ble_eq_true rfl) (fun L2 H S => ?_)
        refine x_var (by exact rfl) ?_
        refine c_draw S 1 2 (by exact rfl) (by exact rfl) hh (by first | omega | decide | (simp only [len_insAt, List.length_map, List.length_append, List.length_cons, List.length_nil, List.length_take, List.length_drop] at *; omega)) (by first | omega | decide | (simp only [len_insAt, List.length_map, List.length_append, List.length_cons, List.length_nil, List.length_take, List.length_drop] at *; omega)) (by first | omega | decide | (simp only [len_insAt, List.length_map, List.length_append, List.length_cons, List.length_nil, List.length_take, List.length_drop] at *; omega)) (fun r2 cs2 H r2a r2b hh S => ?_)
        simp only [List.set_cons_zero, List.set_cons_succ] at S
        refine x_ixI (cs := [4, 1, 2, 64, 1 + r1]) S 0 (by exact rfl) (by omega) (by first | (show (_ : Int) < 5; omega) | omega) (fun v1 hv1 => ?_)
        have hv1 := List.mem_of_getElem? hv1
        simp only [List.mem_cons, List.not_mem_nil, or_false] at hv1
        try dsimp only [tSeq, tAsg, gName, tOp, tUn, tCB, tCons, tNil, tCall, tMethK1, tCallK1, tPar3, tRet, tRetN, tDrop, tTest, tB, tC, tNext, tAugS, tAug, sFld1, sFldAug1, tMeth1, tMake, tMakeK1, tSl, tPart, tNoPart, sDPut1, tDPop, tBM, tBM0, tPar, gSub, tChain, tNot, tNotV, tDG1, tDG2, tDNewT1, iKeys1, iEnum1, iList1, iTup1, iRng1, iRng2, List.set_cons_zero, List.set_cons_succ]
        refine x_var (by exact rfl) ?_
        refine x_var (by exact rfl) ?_
        refine ⟨_, _, _, _, _, rfl, S.pre [(1, 1), (1, 2)], hh, by omega, by omega, by omega, fun ft1 xs1 n1 cs1 H hA1 hL1 hn1 hh nr er e1 e2 F => ?_⟩
        have S := S.gots (H' := H) [(1, 2, L1, .lst [.int n1, .ref hq]), (2, 2, hq, .lst (cs1.map V.int))] (by exact all2 ⟨_, rfl⟩ ⟨_, rfl⟩) (by exact all2 (.inr rfl) (.inr rfl)) (by show List.Nodup [1, 2]; decide) (by exact F) (by exact all2 e1 e2) nr er
        simp only [List.foldl, List.set_cons_zero, List.set_cons_succ] at S
        refine x_var (by exact rfl) ?_
        refine x_var (by exact rfl) ?_
        refine ⟨_, _, _, _, _, rfl, S.pre [(1, 2), (1, 3)], hh, by omega, by omega, by omega, fun ft2 xs2 n2 cs2 H hA2 hL2 hn2 hh nr er e1 e2 F => ?_⟩
        have S := S.gots (H' := H) [(2, 2, L1, .lst [.int n2, .ref hq]), (3, 2, hq, .lst (cs2.map V.int))] (by exact all2 ⟨_, rfl⟩ ⟨_, rfl⟩) (by exact all2 (.inr rfl) (.inr rfl)) (by show List.Nodup [2, 3]; decide) (by exact F) (by exact all2 e1 e2) nr er
        simp only [List.foldl, List.set_cons_zero, List.set_cons_succ] at S
        refine x_cat S 1 0 (by exact rfl) (by exact rfl) (by first | omega | (simp only [List.length_append]; omega)) (fun ct1 H S => ?_)
        refine x_var (by exact rfl) ?_
        refine ⟨_, _, _, _, rfl, S.pre [(1, 4), (1, 5)], hh, by omega, fun ft3 xs3 n3 cs3 H hA3 hL3 hn3 hh nr er e1 e2 F => ?_⟩
        have S := S.gots (H' := H) [(4, 2, L1, .lst [.int n3, .ref hq]), (5, 2, hq, .lst (cs3.map V.int))] (by exact all2 ⟨_, rfl⟩ ⟨_, rfl⟩) (by exact all2 (.inr rfl) (.inr rfl)) (by show List.Nodup [4, 5]; decide) (by exact F) (by exact all2 e1 e2) nr er
        simp only [List.foldl, List.set_cons_zero, List.set_cons_succ] at S
        refine x_cat S 1 0 (by exact rfl) (by exact rfl) (by first | omega | (simp only [List.length_append]; omega)) (fun ct2 H S => ?_)
        try dsimp only [tSeq, tAsg, gName, tOp, tUn, tCB, tCons, tNil, tCall, tMethK1, tCallK1, tPar3, tRet, tRetN, tDrop, tTest, tB, tC, tNext, tAugS, tAug, sFld1, sFldAug1, tMeth1, tMake, tMakeK1, tSl, tPart, tNoPart, sDPut1, tDPop, tBM, tBM0, tPar, gSub, tChain, tNot, tNotV, tDG1, tDG2, tDNewT1, iKeys1, iEnum1, iList1, iTup1, iRng1, iRng2, List.set_cons_zero, List.set_cons_succ]
        refine x_if ?_
        try dsimp only [tSeq, tAsg, gName, tOp, tUn, tCB, tCons, tNil, tCall, tMethK1, tCallK1, tPar3, tRet, tRetN, tDrop, tTest, tB, tC, tNext, tAugS, tAug, sFld1, sFldAug1, tMeth1, tMake, tMakeK1, tSl, tPart, tNoPart, sDPut1, tDPop, tBM, tBM0, tPar, gSub, tChain, tNot, tNotV, tDG1, tDG2, tDNewT1, iKeys1, iEnum1, iList1, iTup1, iRng1, iRng2, List.set_cons_zero, List.set_cons_succ]
        refine x_lc ?_
        try dsimp only [tOp, tUn, tCB, tCons, tNil, tCall, tMethK1, tCallK1, tC, tMeth1, tMake, tMakeK1, tSl, tPart, tNoPart, tDPop, tChain, tNotV, tBM, tBM0, tDG1, tDG2, tDNewT1, iKeys1, iEnum1, iList1, iTup1, iRng1, iRng2]
        refine x_var (by exact rfl) ?_
        refine x_ilist S 0 (by exact rfl) ?_
        refine lcW (walk_list (xs := xs1 ++ xs2 ++ xs3)) S (fun D1 H S => ⟨fun j H1 => Sep H0 [] H1 [(2, D1, .lst []), (2, ct2, .lst (xs1 ++ xs2 ++ xs3)), (2, L1, .lst [.int n3, .ref hq]), (2, hq, .lst (cs3.map V.int))], ?_, ?_, ?_, ?_⟩)
        · exact S.sub [0, 1, 7, 8]
        · rintro j H hi S
          exact S.sl 1 rfl
        · rintro j y H H9 hi S hy
          obtain ⟨rfl, hy⟩ := hy
          obtain rfl : y = .non := (hA1.app hA2).app hA3 y (List.mem_of_getElem? hy)
          refine ⟨rfl, ?_⟩
          try dsimp only [wipe, tYes, tSeq, tAsg, gName, tOp, tUn, tCB, tCons, tNil, tCall, tMethK1, tCallK1, tPar3, tRet, tRetN, tDrop, tTest, tB, tC, tNext, tAugS, tAug, sFld1, sFldAug1, tMeth1, tMake, tMakeK1, tSl, tPart, tNoPart, sDPut1, tDPop, tBM, tBM0, tPar, gSub, tChain, tNot, tNotV, tDG1, tDG2, tDNewT1, iKeys1, iEnum1, iList1, iTup1, iRng1, iRng2, List.set_cons_zero, List.set_cons_succ]
          refine x_var (by exact rfl) ?_
          refine ⟨rfl, ?_⟩
          refine ⟨_, rfl, ?_⟩
          refine itend (fun h => absurd rfl h) (fun c1 => ?_)
          exact S
        · rintro H S
          refine x_lst S (by exact Nat.le_of_ble_eq_true rfl) (fun L3 H S => ?_)
          refine x_neL (xs := []) (ys := []) S 1 0 (by exact rfl) (by exact rfl) ?_
          refine ⟨_, rfl, ?_⟩
          refine itend (fun h => absurd rfl h) (fun c2 => ?_)
          exact ⟨_, _, _, _, _, rfl, by omega, by omega, hh, S.sub [3, 4]⟩
      · rintro σ H ⟨n, cs, q1, q2, q3, rfl, hn, hi40, hh, S⟩
        try dsimp only [tSeq, tAsg, gName, tOp, tUn, tCB, tCons, tNil, tCall, tMethK1, tCallK1, tPar3, tRet, tRetN, tDrop, tTest, tB, tC, tNext, tAugS, tAug, sFld1, sFldAug1, tMeth1, tMake, tMakeK1, tSl, tPart, tNoPart, sDPut1, tDPop, tBM, tBM0, tPar, gSub, tChain, tNot, tNotV, tDG1, tDG2, tDNewT1, iKeys1, iEnum1, iList1, iTup1, iRng1, iRng2, List.set_cons_zero, List.set_cons_succ]
        try dsimp only [tSeq, tAsg, gName, tOp, tUn, tCB, tCons, tNil, tCall, tMethK1, tCallK1, tPar3, tRet, tRetN, tDrop, tTest, tB, tC, tNext, tAugS, tAug, sFld1, sFldAug1, tMeth1, tMake, tMakeK1, tSl, tPart, tNoPart, sDPut1, tDPop, tBM, tBM0, tPar, gSub, tChain, tNot, tNotV, tDG1, tDG2, tDNewT1, iKeys1, iEnum1, iList1, iTup1, iRng1, iRng2, List.set_cons_zero, List.set_cons_succ]
        exact k _
    · refine x_orT ?_
      refine x_lc ?_
      try dsimp only [tOp, tUn, tCB, tCons, tNil, tCall, tMethK1, tCallK1, tC, tMeth1, tMake, tMakeK1, tSl, tPart, tNoPart, tDPop, tChain, tNotV, tBM, tBM0, tDG1, tDG2, tDNewT1, iKeys1, iEnum1, iList1, iTup1, iRng1, iRng2]
      refine x_var (by exact rfl) ?_
      refine ⟨_, rfl, ?_⟩
      refine x_slS (S.sq hs (by simp)) S (fun sl1 H S => ?_)
      refine x_ilist S 0 (by exact rfl) ?_
      refine lcW (walk_list (xs := (cutI ns none (some 63)).map V.int)) S (fun D1 H S => ⟨fun i H1 => ∃ acc : List Int, acc.length = i ∧ Sep H0 [] H1 [(2, D1, .lst (acc.map V.int)), (2, sl1, .lst ((cutI ns none (some 63)).map V.int))], ?_, ?_, ?_, ?_⟩)
      · exact ⟨[], rfl, S⟩
      · rintro i H hi ⟨acc, hal, S⟩
        exact S.sl 1 rfl
      · rintro i y H H9 hi ⟨acc, hal, S⟩ hy
        obtain ⟨rfl, hy⟩ := hy
        obtain ⟨z, hz, rfl⟩ := elem_of hy
        refine ⟨rfl, ?_⟩
        try dsimp only [wipe, tYes, tSeq, tAsg, gName, tOp, tUn, tCB, tCons, tNil, tCall, tMethK1, tCallK1, tPar3, tRet, tRetN, tDrop, tTest, tB, tC, tNext, tAugS, tAug, sFld1, sFldAug1, tMeth1, tMake, tMakeK1, tSl, tPart, tNoPart, sDPut1, tDPop, tBM, tBM0, tPar, gSub, tChain, tNot, tNotV, tDG1, tDG2, tDNewT1, iKeys1, iEnum1, iList1, iTup1, iRng1, iRng2, List.set_cons_zero, List.set_cons_succ]
        refine iteT ?_
        refine x_var (by exact rfl) ?_
        refine x_abs ?_
        refine x_lcappI S 0 (by exact rfl) (by have := len_cutI ns none (some 63); rw [List.length_map] at hi; omega) (fun H S => ?_)
        exact ⟨acc ++ [_], by rw [List.length_append, hal]; rfl, S⟩
      · rintro H ⟨acc, hal, S⟩
        have hle : acc.length ≤ 63 := by have := len_cutI ns none (some 63); rw [hal, List.length_map]; omega
        clear hal
        rcases acc with _ | ⟨a0, acc⟩
        · refine ⟨_, .inl ⟨_, S.sl 0 rfl, rfl⟩, ?_⟩
          refine iteF ?_
          refine x_lst S (by exact Nat.le_of_ble_eq_true rfl) (fun L51 H S => ?_)
          exact KK _ _ ⟨_, [7], rfl, ⟨by simp, by decide, Int.le_refl _⟩, S.sub [0]⟩
        · refine ⟨_, .inl ⟨_, S.sl 0 rfl, rfl⟩, ?_⟩
          refine iteT ?_
          exact KK _ _ ⟨_, _, rfl, ⟨by simp, hle, Int.le_refl _⟩, S.sub [0]⟩
end
end G

set_option linter.all false
set_option maxRecDepth 100000
set_option maxHeartbeats 4000000
namespace G
open PySem PySem.Spec PyProof.Rows L2
theorem all_mk {l : PySem.W.OpenLaw} {w : World} {K : PySem.W.Frag} {h : Heap} {mg : Str → Option Value} {fa C_Giver f1 f2 f3 f4 f5 C_Taker f6 f7 f8 C_Table f9 f10 f11 f12 f13 f14 f15 f16 f17 f18 : Addr} (X : K.In h) (G : h.Ns mainGlobals mg) (hfa : mg "law" = some (.ref fa))
    {od1 an1 od2 an2 od3 an3 od4 an4 od5 an5 od6 an6 od7 an7 od8 an8 od9 an9 od10 an10 od11 an11 od12 an12 od13 an13 od14 an14 od15 an15 od16 an16 od17 an17 od18 an18 : Option Addr} {sl1 sl2 sl3 sl4 sl5 sl6 sl7 sl8 sl9 sl10 sl11 sl12 sl13 sl14 sl15 sl16 sl17 sl18 : Array (Option Value)}
    {D1 D6 D9 : Addr}
    {oc1 dc1 pm1 cd1 ct1 oc2 kV2 dc2 pm2 cd2 ct2 oc3 kV3 dc3 pm3 cd3 ct3 oc4 kV4 dc4 pm4 cd4 ct4 oc5 kV5 dc5 pm5 cd5 ct5 oc6 dc6 pm6 cd6 ct6 oc7 kV7 dc7 pm7 cd7 ct7 oc8 kV8 dc8 pm8 cd8 ct8 oc9 dc9 pm9 cd9 ct9 oc10 kV10 dc10 pm10 cd10 ct10 oc11 kV11 dc11 pm11 cd11 ct11 oc12 kV12 dc12 pm12 cd12 ct12 oc13 kV13 dc13 pm13 cd13 ct13 oc14 kV14 dc14 pm14 cd14 ct14 oc15 kV15 dc15 pm15 cd15 ct15 oc16 kV16 dc16 pm16 cd16 ct16 oc17 kV17 dc17 pm17 cd17 ct17 oc18 kV18 dc18 pm18 cd18 ct18 : Value} {tk1 tk6 : Tok}
    (g_Giver : PySem.W.nsIn K mainGlobals "Giver" = some (some (.ref C_Giver)))
    (pg_Giver : PySem.W.plainGet K C_Giver Str.empty = true)
    (hd_Giver : PySem.W.hasDictIn K C_Giver = true)
    (po_Giver : PySem.W.plainOver K C_Giver = true)
    (sa_Giver : PySem.W.findIn K (.ref C_Giver) "__setattr__" = some (some (.builtin "object.__setattr__")))
    (mk_Giver : PySem.W.makesIn K C_Giver = true)
    (kc_Giver : PySem.W.keepIn K (.ref C_Giver) = true)
    (na_Giver_below : PySem.W.findIn K (.ref C_Giver) "below" = some none)
    (na_Giver_behind : PySem.W.findIn K (.ref C_Giver) "behind" = some none)
    (na_Giver_pieces : PySem.W.findIn K (.ref C_Giver) "pieces" = some none)
    (na_Giver_closed : PySem.W.findIn K (.ref C_Giver) "closed" = some none)
    (m1 : PySem.W.findIn K (.ref C_Giver) "__init__" = some (some (.ref f1)))
    (i1 : PySem.W.isFn K (.ref f1) = true)
    (l1 : K.lookup f1 = some ⟨oc1, od1, .func (PySem.W.fnOf "__init__" "Giver.__init__" (defArgs s_Giver__init) (defBody s_Giver__init) (defScope s_Giver__init) .none (.ref D1) dc1 pm1 an1 cd1 ct1), sl1⟩)
    (c1 : PySem.W.codeIn K cd1 "Giver.__init__" = true)
    (k1 : PySem.W.keepIn K (.ref f1) = true)
    (d1 : PySem.W.nsIn K D1 "window" = some (some (.int 4 tk1)))
    (m2 : PySem.W.findIn K (.ref C_Giver) "put" = some (some (.ref f2)))
    (i2 : PySem.W.isFn K (.ref f2) = true)
    (l2 : K.lookup f2 = some ⟨oc2, od2, .func (PySem.W.fnOf "put" "Giver.put" (defArgs s_Giver_put) (defBody s_Giver_put) (defScope s_Giver_put) .none kV2 dc2 pm2 an2 cd2 ct2), sl2⟩)
    (c2 : PySem.W.codeIn K cd2 "Giver.put" = true)
    (k2 : PySem.W.keepIn K (.ref f2) = true)
    (m3 : PySem.W.findIn K (.ref C_Giver) "shut" = some (some (.ref f3)))
    (i3 : PySem.W.isFn K (.ref f3) = true)
    (l3 : K.lookup f3 = some ⟨oc3, od3, .func (PySem.W.fnOf "shut" "Giver.shut" (defArgs s_Giver_shut) (defBody s_Giver_shut) (defScope s_Giver_shut) .none kV3 dc3 pm3 an3 cd3 ct3), sl3⟩)
    (c3 : PySem.W.codeIn K cd3 "Giver.shut" = true)
    (k3 : PySem.W.keepIn K (.ref f3) = true)
    (m4 : PySem.W.findIn K (.ref C_Giver) "heard" = some (some (.ref f4)))
    (i4 : PySem.W.isFn K (.ref f4) = true)
    (l4 : K.lookup f4 = some ⟨oc4, od4, .func (PySem.W.fnOf "heard" "Giver.heard" (defArgs s_Giver_heard) (defBody s_Giver_heard) (defScope s_Giver_heard) .none kV4 dc4 pm4 an4 cd4 ct4), sl4⟩)
    (c4 : PySem.W.codeIn K cd4 "Giver.heard" = true)
    (k4 : PySem.W.keepIn K (.ref f4) = true)
    (m5 : PySem.W.findIn K (.ref C_Giver) "many" = some (some (.ref f5)))
    (i5 : PySem.W.isFn K (.ref f5) = true)
    (l5 : K.lookup f5 = some ⟨oc5, od5, .func (PySem.W.fnOf "many" "Giver.many" (defArgs s_Giver_many) (defBody s_Giver_many) (defScope s_Giver_many) .none kV5 dc5 pm5 an5 cd5 ct5), sl5⟩)
    (c5 : PySem.W.codeIn K cd5 "Giver.many" = true)
    (k5 : PySem.W.keepIn K (.ref f5) = true)
    (g_Taker : PySem.W.nsIn K mainGlobals "Taker" = some (some (.ref C_Taker)))
    (pg_Taker : PySem.W.plainGet K C_Taker Str.empty = true)
    (hd_Taker : PySem.W.hasDictIn K C_Taker = true)
    (po_Taker : PySem.W.plainOver K C_Taker = true)
    (sa_Taker : PySem.W.findIn K (.ref C_Taker) "__setattr__" = some (some (.builtin "object.__setattr__")))
    (mk_Taker : PySem.W.makesIn K C_Taker = true)
    (kc_Taker : PySem.W.keepIn K (.ref C_Taker) = true)
    (na_Taker_wide : PySem.W.findIn K (.ref C_Taker) "wide" = some none)
    (na_Taker_taken : PySem.W.findIn K (.ref C_Taker) "taken" = some none)
    (na_Taker_kept : PySem.W.findIn K (.ref C_Taker) "kept" = some none)
    (na_Taker_end : PySem.W.findIn K (.ref C_Taker) "end" = some none)
    (m6 : PySem.W.findIn K (.ref C_Taker) "__init__" = some (some (.ref f6)))
    (i6 : PySem.W.isFn K (.ref f6) = true)
    (l6 : K.lookup f6 = some ⟨oc6, od6, .func (PySem.W.fnOf "__init__" "Taker.__init__" (defArgs s_Taker__init) (defBody s_Taker__init) (defScope s_Taker__init) .none (.ref D6) dc6 pm6 an6 cd6 ct6), sl6⟩)
    (c6 : PySem.W.codeIn K cd6 "Taker.__init__" = true)
    (k6 : PySem.W.keepIn K (.ref f6) = true)
    (d6 : PySem.W.nsIn K D6 "window" = some (some (.int 4 tk6)))
    (m7 : PySem.W.findIn K (.ref C_Taker) "came" = some (some (.ref f7)))
    (i7 : PySem.W.isFn K (.ref f7) = true)
    (l7 : K.lookup f7 = some ⟨oc7, od7, .func (PySem.W.fnOf "came" "Taker.came" (defArgs s_Taker_came) (defBody s_Taker_came) (defScope s_Taker_came) .none kV7 dc7 pm7 an7 cd7 ct7), sl7⟩)
    (c7 : PySem.W.codeIn K cd7 "Taker.came" = true)
    (k7 : PySem.W.keepIn K (.ref f7) = true)
    (m8 : PySem.W.findIn K (.ref C_Taker) "ends" = some (some (.ref f8)))
    (i8 : PySem.W.isFn K (.ref f8) = true)
    (l8 : K.lookup f8 = some ⟨oc8, od8, .func (PySem.W.fnOf "ends" "Taker.ends" (defArgs s_Taker_ends) (defBody s_Taker_ends) (defScope s_Taker_ends) .none kV8 dc8 pm8 an8 cd8 ct8), sl8⟩)
    (c8 : PySem.W.codeIn K cd8 "Taker.ends" = true)
    (k8 : PySem.W.keepIn K (.ref f8) = true)
    (g_Table : PySem.W.nsIn K mainGlobals "Table" = some (some (.ref C_Table)))
    (pg_Table : PySem.W.plainGet K C_Table Str.empty = true)
    (hd_Table : PySem.W.hasDictIn K C_Table = true)
    (po_Table : PySem.W.plainOver K C_Table = true)
    (sa_Table : PySem.W.findIn K (.ref C_Table) "__setattr__" = some (some (.builtin "object.__setattr__")))
    (mk_Table : PySem.W.makesIn K C_Table = true)
    (kc_Table : PySem.W.keepIn K (.ref C_Table) = true)
    (na_Table_heeds_boots : PySem.W.findIn K (.ref C_Table) "heeds_boots" = some none)
    (na_Table_heeds_floors : PySem.W.findIn K (.ref C_Table) "heeds_floors" = some none)
    (na_Table_met : PySem.W.findIn K (.ref C_Table) "met" = some none)
    (na_Table_things : PySem.W.findIn K (.ref C_Table) "things" = some none)
    (m9 : PySem.W.findIn K (.ref C_Table) "__init__" = some (some (.ref f9)))
    (i9 : PySem.W.isFn K (.ref f9) = true)
    (l9 : K.lookup f9 = some ⟨oc9, od9, .func (PySem.W.fnOf "__init__" "Table.__init__" (defArgs s_Table__init) (defBody s_Table__init) (defScope s_Table__init) .none (.ref D9) dc9 pm9 an9 cd9 ct9), sl9⟩)
    (c9 : PySem.W.codeIn K cd9 "Table.__init__" = true)
    (k9 : PySem.W.keepIn K (.ref f9) = true)
    (d9 : PySem.W.nsIn K D9 "boots" = some (some (.bool true)) ∧ PySem.W.nsIn K D9 "floors" = some (some (.bool true)))
    (m10 : PySem.W.findIn K (.ref C_Table) "known" = some (some (.ref f10)))
    (i10 : PySem.W.isFn K (.ref f10) = true)
    (l10 : K.lookup f10 = some ⟨oc10, od10, .func (PySem.W.fnOf "known" "Table.known" (defArgs s_Table_known) (defBody s_Table_known) (defScope s_Table_known) .none kV10 dc10 pm10 an10 cd10 ct10), sl10⟩)
    (c10 : PySem.W.codeIn K cd10 "Table.known" = true)
    (k10 : PySem.W.keepIn K (.ref f10) = true)
    (m11 : PySem.W.findIn K (.ref C_Table) "numbers" = some (some (.ref f11)))
    (i11 : PySem.W.isFn K (.ref f11) = true)
    (l11 : K.lookup f11 = some ⟨oc11, od11, .func (PySem.W.fnOf "numbers" "Table.numbers" (defArgs s_Table_numbers) (defBody s_Table_numbers) (defScope s_Table_numbers) .none kV11 dc11 pm11 an11 cd11 ct11), sl11⟩)
    (c11 : PySem.W.codeIn K cd11 "Table.numbers" = true)
    (k11 : PySem.W.keepIn K (.ref f11) = true)
    (m12 : PySem.W.findIn K (.ref C_Table) "meet" = some (some (.ref f12)))
    (i12 : PySem.W.isFn K (.ref f12) = true)
    (l12 : K.lookup f12 = some ⟨oc12, od12, .func (PySem.W.fnOf "meet" "Table.meet" (defArgs s_Table_meet) (defBody s_Table_meet) (defScope s_Table_meet) .none kV12 dc12 pm12 an12 cd12 ct12), sl12⟩)
    (c12 : PySem.W.codeIn K cd12 "Table.meet" = true)
    (k12 : PySem.W.keepIn K (.ref f12) = true)
    (m13 : PySem.W.findIn K (.ref C_Table) "lay" = some (some (.ref f13)))
    (i13 : PySem.W.isFn K (.ref f13) = true)
    (l13 : K.lookup f13 = some ⟨oc13, od13, .func (PySem.W.fnOf "lay" "Table.lay" (defArgs s_Table_lay) (defBody s_Table_lay) (defScope s_Table_lay) .none kV13 dc13 pm13 an13 cd13 ct13), sl13⟩)
    (c13 : PySem.W.codeIn K cd13 "Table.lay" = true)
    (k13 : PySem.W.keepIn K (.ref f13) = true)
    (a14 : PySem.W.nsIn K mainGlobals "_law_draw" = some (some (.ref f14)))
    (l14 : K.lookup f14 = some ⟨oc14, od14, .func (PySem.W.fnOf "_law_draw" "_law_draw" (defArgs s_law_draw) (defBody s_law_draw) (defScope s_law_draw) .none kV14 dc14 pm14 an14 cd14 ct14), sl14⟩)
    (c14 : PySem.W.codeIn K cd14 "_law_draw" = true)
    (k14 : PySem.W.keepIn K (.ref f14) = true)
    (a15 : PySem.W.nsIn K mainGlobals "_law_giver_tells" = some (some (.ref f15)))
    (l15 : K.lookup f15 = some ⟨oc15, od15, .func (PySem.W.fnOf "_law_giver_tells" "_law_giver_tells" (defArgs s_law_giver_tells) (defBody s_law_giver_tells) (defScope s_law_giver_tells) .none kV15 dc15 pm15 an15 cd15 ct15), sl15⟩)
    (c15 : PySem.W.codeIn K cd15 "_law_giver_tells" = true)
    (k15 : PySem.W.keepIn K (.ref f15) = true)
    (a16 : PySem.W.nsIn K mainGlobals "_law_taker_tells" = some (some (.ref f16)))
    (l16 : K.lookup f16 = some ⟨oc16, od16, .func (PySem.W.fnOf "_law_taker_tells" "_law_taker_tells" (defArgs s_law_taker_tells) (defBody s_law_taker_tells) (defScope s_law_taker_tells) .none kV16 dc16 pm16 an16 cd16 ct16), sl16⟩)
    (c16 : PySem.W.codeIn K cd16 "_law_taker_tells" = true)
    (k16 : PySem.W.keepIn K (.ref f16) = true)
    (a17 : PySem.W.nsIn K mainGlobals "_law_table_tells" = some (some (.ref f17)))
    (l17 : K.lookup f17 = some ⟨oc17, od17, .func (PySem.W.fnOf "_law_table_tells" "_law_table_tells" (defArgs s_law_table_tells) (defBody s_law_table_tells) (defScope s_law_table_tells) .none kV17 dc17 pm17 an17 cd17 ct17), sl17⟩)
    (c17 : PySem.W.codeIn K cd17 "_law_table_tells" = true)
    (k17 : PySem.W.keepIn K (.ref f17) = true)
    (a18 : PySem.W.nsIn K mainGlobals "law" = some (some (.ref f18)))
    (l18 : K.lookup f18 = some ⟨oc18, od18, .func (PySem.W.fnOf "law" "law" (defArgs s_law) (defBody s_law) (defScope s_law) .none kV18 dc18 pm18 an18 cd18 ct18), sl18⟩)
    (c18 : PySem.W.codeIn K cd18 "law" = true)
    (k18 : PySem.W.keepIn K (.ref f18) = true)
    (z_abs : PySem.W.nsIn K mainGlobals "abs" = some none)
    (z_range : PySem.W.nsIn K mainGlobals "range" = some none)
    (z_max : PySem.W.nsIn K mainGlobals "max" = some none)
    (z_min : PySem.W.nsIn K mainGlobals "min" = some none)
    (z_len : PySem.W.nsIn K mainGlobals "len" = some none)
    (z_sorted : PySem.W.nsIn K mainGlobals "sorted" = some none)
    : ∃ fd : FuncData, (∀ (s : Shared) (v : Value), BindsTo s fd ⟨[v], []⟩ [("_law_script", v)]) ∧ ∀ base : Heap, K.In base → base.Ns mainGlobals mg → FnOk l.prog w K mg base CX0 4 fa fd ["_law_script"] (spLaw K) := by
  have e := hfa.symm.trans (PySem.W.mg_of X G a18)
  cases e
  have cl_Giver : Cls K C_Giver := ⟨pg_Giver, hd_Giver, po_Giver, sa_Giver⟩
  have F_Giver__init := fun_mk (st := s_Giver__init) l1 c1 k1
  have M_Giver : Mk K C_Giver f1 := ⟨mk_Giver, m1, i1, kc_Giver⟩
  have F_Giver_put := fun_mk (st := s_Giver_put) l2 c2 k2
  have b_Giver_put := F_Giver_put.binds (ps := ["self", "value"]) fun _ _ _ _ _ _ us hl => match us, hl with | [_, _], _ => rfl
  have me_Giver_put : L2.Meth K C_Giver "put" f2 := ⟨m2, i2, k2⟩
  have F_Giver_shut := fun_mk (st := s_Giver_shut) l3 c3 k3
  have b_Giver_shut := F_Giver_shut.binds (ps := ["self"]) fun _ _ _ _ _ _ us hl => match us, hl with | [_], _ => rfl
  have me_Giver_shut : L2.Meth K C_Giver "shut" f3 := ⟨m3, i3, k3⟩
  have F_Giver_heard := fun_mk (st := s_Giver_heard) l4 c4 k4
  have b_Giver_heard := F_Giver_heard.binds (ps := ["self", "got", "room"]) fun _ _ _ _ _ _ us hl => match us, hl with | [_, _, _], _ => rfl
  have me_Giver_heard : L2.Meth K C_Giver "heard" f4 := ⟨m4, i4, k4⟩
  have F_Giver_many := fun_mk (st := s_Giver_many) l5 c5 k5
  have b_Giver_many := F_Giver_many.binds (ps := ["self"]) fun _ _ _ _ _ _ us hl => match us, hl with | [_], _ => rfl
  have me_Giver_many : L2.Meth K C_Giver "many" f5 := ⟨m5, i5, k5⟩
  have gC_Giver : mg "Giver" = some (.ref C_Giver) := PySem.W.mg_of X G g_Giver
  have cl_Taker : Cls K C_Taker := ⟨pg_Taker, hd_Taker, po_Taker, sa_Taker⟩
  have F_Taker__init := fun_mk (st := s_Taker__init) l6 c6 k6
  have M_Taker : Mk K C_Taker f6 := ⟨mk_Taker, m6, i6, kc_Taker⟩
  have F_Taker_came := fun_mk (st := s_Taker_came) l7 c7 k7
  have b_Taker_came := F_Taker_came.binds (ps := ["self", "place", "value"]) fun _ _ _ _ _ _ us hl => match us, hl with | [_, _, _], _ => rfl
  have me_Taker_came : L2.Meth K C_Taker "came" f7 := ⟨m7, i7, k7⟩
  have F_Taker_ends := fun_mk (st := s_Taker_ends) l8 c8 k8
  have b_Taker_ends := F_Taker_ends.binds (ps := ["self", "many"]) fun _ _ _ _ _ _ us hl => match us, hl with | [_, _], _ => rfl
  have me_Taker_ends : L2.Meth K C_Taker "ends" f8 := ⟨m8, i8, k8⟩
  have gC_Taker : mg "Taker" = some (.ref C_Taker) := PySem.W.mg_of X G g_Taker
  have cl_Table : Cls K C_Table := ⟨pg_Table, hd_Table, po_Table, sa_Table⟩
  have F_Table__init := fun_mk (st := s_Table__init) l9 c9 k9
  have M_Table : Mk K C_Table f9 := ⟨mk_Table, m9, i9, kc_Table⟩
  have F_Table_known := fun_mk (st := s_Table_known) l10 c10 k10
  have b_Table_known := F_Table_known.binds (ps := ["self", "of"]) fun _ _ _ _ _ _ us hl => match us, hl with | [_, _], _ => rfl
  have me_Table_known : L2.Meth K C_Table "known" f10 := ⟨m10, i10, k10⟩
  have F_Table_numbers := fun_mk (st := s_Table_numbers) l11 c11 k11
  have b_Table_numbers := F_Table_numbers.binds (ps := ["self", "of"]) fun _ _ _ _ _ _ us hl => match us, hl with | [_, _], _ => rfl
  have me_Table_numbers : L2.Meth K C_Table "numbers" f11 := ⟨m11, i11, k11⟩
  have F_Table_meet := fun_mk (st := s_Table_meet) l12 c12 k12
  have b_Table_meet := F_Table_meet.binds (ps := ["self", "of", "boot", "floor"]) fun _ _ _ _ _ _ us hl => match us, hl with | [_, _, _, _], _ => rfl
  have me_Table_meet : L2.Meth K C_Table "meet" f12 := ⟨m12, i12, k12⟩
  have F_Table_lay := fun_mk (st := s_Table_lay) l13 c13 k13
  have b_Table_lay := F_Table_lay.binds (ps := ["self", "of", "number", "thing"]) fun _ _ _ _ _ _ us hl => match us, hl with | [_, _, _, _], _ => rfl
  have me_Table_lay : L2.Meth K C_Table "lay" f13 := ⟨m13, i13, k13⟩
  have gC_Table : mg "Table" = some (.ref C_Table) := PySem.W.mg_of X G g_Table
  have F_law_draw := fun_mk (st := s_law_draw) l14 c14 k14
  have b_law_draw := F_law_draw.binds (ps := ["_law_hold", "_law_size"]) fun _ _ _ _ _ _ us hl => match us, hl with | [_, _], _ => rfl
  have g_law_draw : mg "_law_draw" = some (.ref f14) := PySem.W.mg_of X G a14
  have F_law_giver_tells := fun_mk (st := s_law_giver_tells) l15 c15 k15
  have b_law_giver_tells := F_law_giver_tells.binds (ps := ["_law_hold", "_law_wide"]) fun _ _ _ _ _ _ us hl => match us, hl with | [_, _], _ => rfl
  have g_law_giver_tells : mg "_law_giver_tells" = some (.ref f15) := PySem.W.mg_of X G a15
  have F_law_taker_tells := fun_mk (st := s_law_taker_tells) l16 c16 k16
  have b_law_taker_tells := F_law_taker_tells.binds (ps := ["_law_hold", "_law_wide"]) fun _ _ _ _ _ _ us hl => match us, hl with | [_, _], _ => rfl
  have g_law_taker_tells : mg "_law_taker_tells" = some (.ref f16) := PySem.W.mg_of X G a16
  have F_law_table_tells := fun_mk (st := s_law_table_tells) l17 c17 k17
  have b_law_table_tells := F_law_table_tells.binds (ps := ["_law_hold"]) fun _ _ _ _ _ _ us hl => match us, hl with | [_], _ => rfl
  have g_law_table_tells : mg "_law_table_tells" = some (.ref f17) := PySem.W.mg_of X G a17
  have F_law := fun_mk (st := s_law) l18 c18 k18
  have b_law := F_law.binds (ps := ["_law_script"]) fun _ _ _ _ _ _ us hl => match us, hl with | [_], _ => rfl
  have z_abs : mg "abs" = none := PySem.W.mg_none_of X G z_abs
  have z_range : mg "range" = none := PySem.W.mg_none_of X G z_range
  have z_max : mg "max" = none := PySem.W.mg_none_of X G z_max
  have z_min : mg "min" = none := PySem.W.mg_none_of X G z_min
  have z_len : mg "len" = none := PySem.W.mg_none_of X G z_len
  have z_sorted : mg "sorted" = none := PySem.W.mg_none_of X G z_sorted
  refine ⟨PySem.W.fnOf "law" "law" (defArgs s_law) (defBody s_law) (defScope s_law) .none kV18 dc18 pm18 an18 cd18 ct18, fun s v => .of_eq rfl, fun base _ _ => ?_⟩
  have TG : GvCls K C_Giver := ⟨cl_Giver, na_Giver_below, na_Giver_behind, na_Giver_pieces, na_Giver_closed⟩
  have FG : FunD K "__init__" "Giver.__init__" (defArgs s_Giver__init) (defBody s_Giver__init) (defScope s_Giver__init) [] [("window", V.int 4)] _ _ := ⟨⟨_, _, _, _, _, _, _, _, _, _, rfl, l1, c1, .inl ⟨rfl, rfl⟩, .inr ⟨_, rfl, fun q hq => by rw [List.mem_singleton.mp hq]; exact ⟨_, d1, _, rfl⟩⟩⟩, k1⟩
  obtain ⟨mv, KBG⟩ := FG.kbinds0 (ps := ["self", "window"]) 1 ["window"] [] (fun us mv ws => us ++ ws) (by simp) (fun _ h => nomatch h) (fun r1 _ r2 => r1.append r2) (fun D doc pm an cdv ct us mv ws h1 h2 h3 => match us, ws, h1, h3 with | [_], [_], _, _ => rfl)
  have mkg : MakK l.prog w K mg base CX0 1 "Giver" C_Giver ["window"] (spGvInit C_Giver) := ⟨_, _, _, _, M_Giver, ok_Giver__init F_Giver__init TG, gC_Giver, KBG⟩
  have T : TkCls K C_Taker := ⟨cl_Taker, na_Taker_wide, na_Taker_taken, na_Taker_kept, na_Taker_end⟩
  have FD : FunD K "__init__" "Taker.__init__" (defArgs s_Taker__init) (defBody s_Taker__init) (defScope s_Taker__init) [] [("window", V.int 4)] _ _ := ⟨⟨_, _, _, _, _, _, _, _, _, _, rfl, l6, c6, .inl ⟨rfl, rfl⟩, .inr ⟨_, rfl, fun q hq => by rw [List.mem_singleton.mp hq]; exact ⟨_, d6, _, rfl⟩⟩⟩, k6⟩
  obtain ⟨mv, KB⟩ := FD.kbinds0 (ps := ["self", "window"]) 1 ["window"] [] (fun us mv ws => us ++ ws) (by simp) (fun _ h => nomatch h) (fun r1 _ r2 => r1.append r2) (fun D doc pm an cdv ct us mv ws h1 h2 h3 => match us, ws, h1, h3 with | [_], [_], _, _ => rfl)
  have mk : MakK l.prog w K mg base CX0 1 "Taker" C_Taker ["window"] (spTkInit C_Taker) := ⟨_, _, _, _, M_Taker, ok_Taker__init F_Taker__init T, gC_Taker, KB⟩
  have TT : TbCls K C_Table := ⟨cl_Table, na_Table_heeds_boots, na_Table_heeds_floors, na_Table_met, na_Table_things⟩
  have FTb : FunD K "__init__" "Table.__init__" (defArgs s_Table__init) (defBody s_Table__init) (defScope s_Table__init) [] [("boots", V.bl true), ("floors", V.bl true)] _ _ := ⟨⟨_, _, _, _, _, _, _, _, _, _, rfl, l9, c9, .inl ⟨rfl, rfl⟩, .inr ⟨_, rfl, fun q hq => by simp only [List.mem_cons, List.not_mem_nil, or_false] at hq; rcases hq with rfl | rfl; exact ⟨_, d9.1, rfl⟩; exact ⟨_, d9.2, rfl⟩⟩⟩, k9⟩
  obtain ⟨ds0, VD, BD⟩ := FTb.binds0 (ps := ["self", "boots", "floors"]) 1 (by simp) rfl (fun D doc pm an cdv ct us ks h1 h2 => match us, ks, h1, h2 with | [_], [_, _], _, _ => ⟨_, _, _, _, _, _, rfl, rfl, _, _, _, _, _, _, rfl, rfl, rfl⟩)
  have mkt : MakD l.prog w K mg base CX0 1 "Table" C_Table [V.bl true, V.bl true] (spTbInit C_Table) := ⟨_, _, _, ds0, M_Table, ok_Table__init F_Table__init TT, gC_Table, BD, VD⟩
  have mmany : Met l.prog w K mg base CX0 1 C_Giver "many" (spMany C_Giver) := ⟨_, _, _, cl_Giver, me_Giver_many, ok_Giver_many F_Giver_many TG z_len, b_Giver_many⟩
  have mput : Met l.prog w K mg base CX0 2 C_Giver "put" (spPut0 C_Giver) := ⟨_, _, _, cl_Giver, me_Giver_put, ok_Giver_put F_Giver_put TG mmany, b_Giver_put⟩
  have mheard : Met l.prog w K mg base CX0 1 C_Giver "heard" (spHeard C_Giver) := ⟨_, _, _, cl_Giver, me_Giver_heard, ok_Giver_heard F_Giver_heard TG z_max, b_Giver_heard⟩
  have mshut : Met l.prog w K mg base CX0 1 C_Giver "shut" (spShut0 C_Giver) := ⟨_, _, _, cl_Giver, me_Giver_shut, ok_Giver_shut F_Giver_shut TG, b_Giver_shut⟩
  have mcame : Met l.prog w K mg base CX0 1 C_Taker "came" (spCame C_Taker) := ⟨_, _, _, cl_Taker, me_Taker_came, ok_Taker_came F_Taker_came T, b_Taker_came⟩
  have mends : Met l.prog w K mg base CX0 1 C_Taker "ends" (spEnds C_Taker) := ⟨_, _, _, cl_Taker, me_Taker_ends, ok_Taker_ends F_Taker_ends T, b_Taker_ends⟩
  have mknown : Met l.prog w K mg base CX0 1 C_Table "known" (spKnown0 C_Table) := ⟨_, _, _, cl_Table, me_Table_known, ok_Table_known F_Table_known TT, b_Table_known⟩
  have mnumbers : Met l.prog w K mg base CX0 1 C_Table "numbers" (spNum0 C_Table) := ⟨_, _, _, cl_Table, me_Table_numbers, ok_Table_numbers F_Table_numbers TT z_sorted, b_Table_numbers⟩
  have mmeet : Met l.prog w K mg base CX0 2 C_Table "meet" (spMeet0 C_Table) := ⟨_, _, _, cl_Table, me_Table_meet, ok_Table_meet F_Table_meet TT mknown mnumbers, b_Table_meet⟩
  have mlay : Met l.prog w K mg base CX0 1 C_Table "lay" (spLay C_Table) := ⟨_, _, _, cl_Table, me_Table_lay, ok_Table_lay F_Table_lay TT, b_Table_lay⟩
  have cd : Cal l.prog w K mg base CX0 1 "_law_draw" spDraw := ⟨_, _, _, ok_draw F_law_draw z_len, g_law_draw, F_law_draw.kp, b_law_draw⟩
  have cgt : Cal l.prog w K mg base CX0 3 "_law_giver_tells" spGT := ⟨_, _, _, ok_law_giver_tells F_law_giver_tells cd mkg mput mheard mshut z_range, g_law_giver_tells, F_law_giver_tells.kp, b_law_giver_tells⟩
  have ctt : Cal l.prog w K mg base CX0 3 "_law_taker_tells" spGT := ⟨_, _, _, ok_law_taker_tells F_law_taker_tells cd mk mcame mends z_range z_max, g_law_taker_tells, F_law_taker_tells.kp, b_law_taker_tells⟩
  have cbt : Cal l.prog w K mg base CX0 3 "_law_table_tells" spTT := ⟨_, _, _, ok_law_table_tells F_law_table_tells cd mkt mmeet mlay z_range, g_law_table_tells, F_law_table_tells.kp, b_law_table_tells⟩
  exact ok_law F_law cd cgt ctt cbt z_abs z_range z_max z_min z_len
end G

set_option linter.all false
set_option maxRecDepth 100000
set_option maxHeartbeats 4000000
open PySem PySem.W PyProof.Rows
set_option maxRecDepth 100000 in
set_option maxHeartbeats 0 in
theorem PySem.Challenge.cw_farasked_k13_calls_that_tell_nothing_holds : PySem.Challenge.rw_farasked_k13_calls_that_tell_nothing.Holds := by
  w_on; o_law; k_head; (case hw => w_witness2)
  k_fill
  refine L2.walk_of (l := PySem.Challenge.rw_farasked_k13_calls_that_tell_nothing) (n := 63) (k := 4) (x := "_law_script") (CX := fun _ => L2.CX0) (sp := fun w => G.spLaw _) rfl (by decide) rfl ⟨rfl, by decide, by decide⟩ (fun w h Y => PySem.W.kIn_of Y) ?F (fun _ _ a ns hl _ hS => ⟨a, ns, rfl, hS, hl, fun _ => rfl⟩) (fun _ _ _ _ _ h => h)
  case F =>
    intro w mg fa h KX GN hmg
    refine' G.all_mk KX GN hmg ?g_Giver ?pg_Giver ?hd_Giver ?po_Giver ?sa_Giver ?mk_Giver ?kc_Giver ?na_Giver_below ?na_Giver_behind ?na_Giver_pieces ?na_Giver_closed ?m1 ?i1 ?l1 ?c1 ?k1 ?d1 ?m2 ?i2 ?l2 ?c2 ?k2 ?m3 ?i3 ?l3 ?c3 ?k3 ?m4 ?i4 ?l4 ?c4 ?k4 ?m5 ?i5 ?l5 ?c5 ?k5 ?g_Taker ?pg_Taker ?hd_Taker ?po_Taker ?sa_Taker ?mk_Taker ?kc_Taker ?na_Taker_wide ?na_Taker_taken ?na_Taker_kept ?na_Taker_end ?m6 ?i6 ?l6 ?c6 ?k6 ?d6 ?m7 ?i7 ?l7 ?c7 ?k7 ?m8 ?i8 ?l8 ?c8 ?k8 ?g_Table ?pg_Table ?hd_Table ?po_Table ?sa_Table ?mk_Table ?kc_Table ?na_Table_heeds_boots ?na_Table_heeds_floors ?na_Table_met ?na_Table_things ?m9 ?i9 ?l9 ?c9 ?k9 ?d9 ?m10 ?i10 ?l10 ?c10 ?k10 ?m11 ?i11 ?l11 ?c11 ?k11 ?m12 ?i12 ?l12 ?c12 ?k12 ?m13 ?i13 ?l13 ?c13 ?k13 ?a14 ?l14 ?c14 ?k14 ?a15 ?l15 ?c15 ?k15 ?a16 ?l16 ?c16 ?k16 ?a17 ?l17 ?c17 ?k17 ?a18 ?l18 ?c18 ?k18 ?z_abs ?z_range ?z_max ?z_min ?z_len ?z_sorted
    (case g_Giver => k_is)
    (case pg_Giver => k_is)
    (case hd_Giver => k_is)
    (case po_Giver => k_is)
    (case sa_Giver => k_is)
    (case mk_Giver => k_is)
    (case kc_Giver => k_is)
    (case na_Giver_below => k_is)
    (case na_Giver_behind => k_is)
    (case na_Giver_pieces => k_is)
    (case na_Giver_closed => k_is)
    (case m1 => k_is)
    (case i1 => k_is)
    (case l1 => k_is)
    (case c1 => k_is)
    (case k1 => k_is)
    (case d1 => k_is)
    (case m2 => k_is)
    (case i2 => k_is)
    (case l2 => k_is)
    (case c2 => k_is)
    (case k2 => k_is)
    (case m3 => k_is)
    (case i3 => k_is)
    (case l3 => k_is)
    (case c3 => k_is)
    (case k3 => k_is)
    (case m4 => k_is)
    (case i4 => k_is)
    (case l4 => k_is)
    (case c4 => k_is)
    (case k4 => k_is)
    (case m5 => k_is)
    (case i5 => k_is)
    (case l5 => k_is)
    (case c5 => k_is)
    (case k5 => k_is)
    (case g_Taker => k_is)
    (case pg_Taker => k_is)
    (case hd_Taker => k_is)
    (case po_Taker => k_is)
    (case sa_Taker => k_is)
    (case mk_Taker => k_is)
    (case kc_Taker => k_is)
    (case na_Taker_wide => k_is)
    (case na_Taker_taken => k_is)
    (case na_Taker_kept => k_is)
    (case na_Taker_end => k_is)
    (case m6 => k_is)
    (case i6 => k_is)
    (case l6 => k_is)
    (case c6 => k_is)
    (case k6 => k_is)
    (case d6 => k_is)
    (case m7 => k_is)
    (case i7 => k_is)
    (case l7 => k_is)
    (case c7 => k_is)
    (case k7 => k_is)
    (case m8 => k_is)
    (case i8 => k_is)
    (case l8 => k_is)
    (case c8 => k_is)
    (case k8 => k_is)
    (case g_Table => k_is)
    (case pg_Table => k_is)
    (case hd_Table => k_is)
    (case po_Table => k_is)
    (case sa_Table => k_is)
    (case mk_Table => k_is)
    (case kc_Table => k_is)
    (case na_Table_heeds_boots => k_is)
    (case na_Table_heeds_floors => k_is)
    (case na_Table_met => k_is)
    (case na_Table_things => k_is)
    (case m9 => k_is)
    (case i9 => k_is)
    (case l9 => k_is)
    (case c9 => k_is)
    (case k9 => k_is)
    (case d9 => (refine ⟨?_, ?_⟩ <;> k_is))
    (case m10 => k_is)
    (case i10 => k_is)
    (case l10 => k_is)
    (case c10 => k_is)
    (case k10 => k_is)
    (case m11 => k_is)
    (case i11 => k_is)
    (case l11 => k_is)
    (case c11 => k_is)
    (case k11 => k_is)
    (case m12 => k_is)
    (case i12 => k_is)
    (case l12 => k_is)
    (case c12 => k_is)
    (case k12 => k_is)
    (case m13 => k_is)
    (case i13 => k_is)
    (case l13 => k_is)
    (case c13 => k_is)
    (case k13 => k_is)
    (case a14 => k_is)
    (case l14 => k_is)
    (case c14 => k_is)
    (case k14 => k_is)
    (case a15 => k_is)
    (case l15 => k_is)
    (case c15 => k_is)
    (case k15 => k_is)
    (case a16 => k_is)
    (case l16 => k_is)
    (case c16 => k_is)
    (case k16 => k_is)
    (case a17 => k_is)
    (case l17 => k_is)
    (case c17 => k_is)
    (case k17 => k_is)
    (case a18 => k_is)
    (case l18 => k_is)
    (case c18 => k_is)
    (case k18 => k_is)
    (case z_abs => k_is)
    (case z_range => k_is)
    (case z_max => k_is)
    (case z_min => k_is)
    (case z_len => k_is)
    (case z_sorted => k_is)

