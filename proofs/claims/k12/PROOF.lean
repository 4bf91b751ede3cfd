import PyProof.Rows.All
import Wide.All
import OpenK.AllK
import Wide.FinOn
import HandS.ForMost
import HandS.Wide
import HandS.Flow
import HandS.Defaults
import HandS.MakeKwOnly
import HandS.Codes
import HandS.More
import KE.Datum
import PySem.Challenge.RW_farasked_k12_whole_orders_of_arrival
set_option Elab.async false
set_option linter.all false
set_option maxRecDepth 100000
/-! what stands in the heap, as one list of cells -/
namespace G
open PySem PySem.Spec PyProof.Rows L2

/-- a cell: 0 read alone, 1 of the caller's and to be changed, 2 new here -/
abbrev Cell := Nat × Addr × HO
structure Sep (H0 : Hp) (ft : List Addr) (H : Hp) (l : List Cell) : Prop where
  nd : (l.map (·.2.1)).Nodup
  rd : ∀ c ∈ l, H c.2.1 = some c.2.2
  fr : ∀ b o, H0 b = some o → b ∉ ft → H b = some o
  wr : ∀ c ∈ l, c.1 = 1 → c.2.1 ∈ ft
  nw : ∀ c ∈ l, c.1 = 2 → H0 c.2.1 = none
  ex : ∀ b ∈ ft, ∃ o, H b = some o
section
variable {H0 H H' : Hp} {ft : List Addr} {l : List Cell} {t : Nat} {a p q b : Addr} {o o' u : HO}
theorem Sep.nil (ex : ∀ b ∈ ft, ∃ o, H b = some o) : Sep H ft H [] := ⟨List.nodup_nil, fun _ h => (nomatch h), fun _ _ h _ => h, fun _ h => (nomatch h), fun _ h => (nomatch h), ex⟩
theorem Sep.mem (S : Sep H0 ft H l) (i : Nat) {c : Cell} (h : l[i]? = some c) : c ∈ l := List.mem_of_getElem? h
theorem Sep.get (S : Sep H0 ft H l) (i : Nat) (h : l[i]? = some (t, a, o)) : H a = some o := S.rd _ (List.mem_of_getElem? h)
theorem Sep.new_none (S : Sep H0 ft H l) (i : Nat) (h : l[i]? = some (2, a, o)) : H0 a = none := S.nw _ (List.mem_of_getElem? h) rfl
theorem Sep.ne {t t' : Nat} (S : Sep H0 ft H l) (i j : Nat) (h : l[i]? = some (t, a, o)) (h' : l[j]? = some (t', b, u)) (d : i ≠ j) : a ≠ b := by
  intro e
  have h1 : (l.map (·.2.1))[i]? = some a := by rw [List.getElem?_map, h]; rfl
  have h2 : (l.map (·.2.1))[j]? = some a := by rw [List.getElem?_map, h', e]; rfl
  obtain ⟨x1, e1⟩ := List.getElem?_eq_some_iff.mp h1
  obtain ⟨x2, e2⟩ := List.getElem?_eq_some_iff.mp h2
  exact d ((List.getElem_inj S.nd).mp (e1.trans e2.symm))
theorem Sep.add (S : Sep H0 ft H l) (t : Nat) (ha : H a = some o) (hn : ∀ c ∈ l, c.2.1 ≠ a) (h1 : t = 1 → a ∈ ft) (h2 : t = 2 → H0 a = none) : Sep H0 ft H ((t, a, o) :: l) :=
  ⟨List.nodup_cons.mpr ⟨fun m => by obtain ⟨c, hc, e⟩ := List.mem_map.mp m; exact hn c hc e, S.nd⟩,
   fun c hc => (List.mem_cons.mp hc).elim (fun e => by rw [e]; exact ha) (S.rd c), S.fr,
   fun c hc => (List.mem_cons.mp hc).elim (fun e => by rw [e]; exact h1) (S.wr c),
   fun c hc => (List.mem_cons.mp hc).elim (fun e => by rw [e]; exact h2) (S.nw c), S.ex⟩
/-- what is not there was not there at the entry, where all that may be changed is there -/
theorem Sep.none0 (S : Sep H0 ft H l) (hp : H p = none) : H0 p = none := by
  cases e : H0 p with
  | none => rfl
  | some o =>
    by_cases m : p ∈ ft
    · obtain ⟨u, hu⟩ := S.ex p m
      rw [hp] at hu; cases hu
    · have := S.fr p o e m
      rw [hp] at this; cases this
theorem Sep.new (S : Sep H0 ft H l) (hp : H p = none) (o : HO) : Sep H0 ft (upd H p o) ((2, p, o) :: l) := by
  have h0 := S.none0 hp
  have hne : ∀ c ∈ l, c.2.1 ≠ p := fun c hc e => by
    have := S.rd c hc
    rw [e, hp] at this; cases this
  have S' : Sep H0 ft (upd H p o) l := ⟨S.nd, fun c hc => by rw [upd_ne (hne c hc)]; exact S.rd c hc, fun b u e m => by rw [upd_ne (ne_of_none e h0)]; exact S.fr b u e m, S.wr, S.nw, fun b m => by obtain ⟨u, hu⟩ := S.ex b m; exact ⟨u, by rw [upd_ne (ne_of_none hu hp)]; exact hu⟩⟩
  exact S'.add 2 upd_same hne (fun e => by cases e) fun _ => h0
theorem Sep.put (S : Sep H0 ft H l) (i : Nat) (o' : HO) (h : l[i]? = some (t, a, o)) (ht : t = 1 ∨ t = 2 := by first | exact .inl rfl | exact .inr rfl) : Sep H0 ft (upd H a o') (l.set i (t, a, o')) := by
  have hw : H0 a = none ∨ a ∈ ft := by
    rcases ht with e | e
    · exact .inr (S.wr _ (List.mem_of_getElem? h) e)
    · exact .inl (S.nw _ (List.mem_of_getElem? h) e)
  have hi : i < l.length := (List.getElem?_eq_some_iff.mp h).1
  have em : (l.set i (t, a, o')).map (·.2.1) = l.map (·.2.1) := by
    rw [List.map_set]
    have : (l.map (·.2.1))[i]? = some a := by rw [List.getElem?_map, h]; rfl
    obtain ⟨x, e⟩ := List.getElem?_eq_some_iff.mp this
    rw [← e]
    exact List.set_getElem_self x
  refine ⟨by rw [em]; exact S.nd, fun c hc => ?_, fun b u e m => ?_, fun c hc => ?_, fun c hc => ?_, fun b m => ?_⟩
  · rcases List.getElem?_of_mem hc with ⟨j, hj⟩
    by_cases e : i = j
    · subst e
      rw [List.getElem?_set_self hi] at hj
      cases hj
      exact upd_same
    · rw [List.getElem?_set_ne e] at hj
      have hne : c.2.1 ≠ a := S.ne (t := c.1) (o := c.2.2) j i hj h (Ne.symm e)
      rw [upd_ne hne]
      exact S.rd c (List.mem_of_getElem? hj)
  · have nb : b ≠ a := fun z => by
      rw [z] at e m
      rcases hw with k | k
      · rw [k] at e; cases e
      · exact m k
    rw [upd_ne nb]
    exact S.fr b u e m
  · rcases List.mem_or_eq_of_mem_set hc with hc | rfl
    · exact S.wr c hc
    · exact fun e => S.wr (t, a, o) (List.mem_of_getElem? h) e
  · rcases List.mem_or_eq_of_mem_set hc with hc | rfl
    · exact S.nw c hc
    · exact fun e => S.nw (t, a, o) (List.mem_of_getElem? h) e
  · obtain ⟨u, hu⟩ := S.ex b m
    by_cases e : b = a
    · subst e; exact ⟨_, upd_same⟩
    · exact ⟨u, by rw [upd_ne e]; exact hu⟩
/-- behind a call that changes nothing that was -/
theorem Sep.stay (S : Sep H0 ft H l) (F : ∀ b o, H b = some o → H' b = some o) : Sep H0 ft H' l :=
  ⟨S.nd, fun c hc => F _ _ (S.rd c hc), fun b o e m => F b o (S.fr b o e m), S.wr, S.nw, fun b m => let ⟨u, hu⟩ := S.ex b m; ⟨u, F b u hu⟩⟩
/-- behind a call that changes the i-th cell alone -/
theorem Sep.chg1 (S : Sep H0 ft H l) (i : Nat) (h : l[i]? = some (t, a, o)) (F : ∀ b u, H b = some u → b ≠ a → H' b = some u) (e : H' a = some o') (ht : t = 1 ∨ t = 2 := by first | exact .inl rfl | exact .inr rfl) :
    Sep H0 ft H' (l.set i (t, a, o')) := by
  have S1 := S.put i o' h ht
  refine S1.stay fun b u hb => ?_
  by_cases z : b = a
  · subst z; rw [upd_same] at hb; cases hb; exact e
  · rw [upd_ne z] at hb; exact F b u hb z
theorem Sep.chg2 {t' : Nat} {o2 o2' : HO} (S : Sep H0 ft H l) (i j : Nat) (h : l[i]? = some (t, a, o)) (h' : l[j]? = some (t', b, o2)) (d : i ≠ j) (F : ∀ c u, H c = some u → c ≠ a → c ≠ b → H' c = some u) (e : H' a = some o') (e2 : H' b = some o2')
    (ht : t = 1 ∨ t = 2 := by first | exact .inl rfl | exact .inr rfl) (ht' : t' = 1 ∨ t' = 2 := by first | exact .inl rfl | exact .inr rfl) : Sep H0 ft H' ((l.set i (t, a, o')).set j (t', b, o2')) := by
  have S1 := S.put i o' h ht
  have nab : a ≠ b := S.ne i j h h' d
  refine S1.chg1 j (by rw [List.getElem?_set_ne d]; exact h') (fun c u hc z => ?_) e2 ht'
  by_cases w : c = a
  · subst w; rw [upd_same] at hc; cases hc; exact e
  · rw [upd_ne w] at hc; exact F c u hc w z
theorem nodup_of {α : Type} (l : List α) (is : List Nat) : is.Nodup → l.Nodup → (is.filterMap (l[·]?)).Nodup := by
  intro h1 h2
  induction is with
  | nil => exact List.nodup_nil
  | cons i r ih =>
    obtain ⟨n1, n2⟩ := List.nodup_cons.mp h1
    cases e : l[i]? with
    | none => rw [List.filterMap_cons_none e]; exact ih n2
    | some x =>
      rw [List.filterMap_cons_some e]
      refine List.nodup_cons.mpr ⟨fun m => ?_, ih n2⟩
      obtain ⟨j, hj, ej⟩ := List.mem_filterMap.mp m
      obtain ⟨x1, e1⟩ := List.getElem?_eq_some_iff.mp e
      obtain ⟨x2, e2⟩ := List.getElem?_eq_some_iff.mp ej
      have := (List.getElem_inj h2).mp (e1.trans e2.symm)
      subst this
      exact n1 hj
/-- some of the cells, in another order -/
theorem Sep.sub (S : Sep H0 ft H l) (is : List Nat) (hn : is.Nodup := by decide) : Sep H0 ft H (is.filterMap (l[·]?)) := by
  have hm : ∀ c ∈ is.filterMap (l[·]?), c ∈ l := fun c hc => by
    obtain ⟨j, _, ej⟩ := List.mem_filterMap.mp hc
    exact List.mem_of_getElem? ej
  refine ⟨?_, fun c hc => S.rd c (hm c hc), S.fr, fun c hc => S.wr c (hm c hc), fun c hc => S.nw c (hm c hc), S.ex⟩
  have : (is.filterMap (l[·]?)).map (·.2.1) = is.filterMap ((l.map (·.2.1))[·]?) := by
    rw [List.map_filterMap]
    congr 1
    funext i
    rw [List.getElem?_map]
  rw [this]
  exact nodup_of _ is hn S.nd
theorem Sep.sq {K : PySem.W.Frag} {xs : List V} (S : Sep H0 ft H l) (h : SqL K H0 a xs) (ha : a ∉ ft) : SqL K H a xs := by
  rcases h with (h | ⟨o, h⟩) | h
  · exact .inl (.inl (S.fr _ _ h ha))
  · exact .inl (.inr ⟨o, S.fr _ _ h ha⟩)
  · exact .inr h
theorem Sep.sl {K : PySem.W.Frag} {xs : List V} (S : Sep H0 ft H l) (i : Nat) (h : l[i]? = some (t, a, .lst xs)) : SqL K H a xs := .of (S.get i h)
theorem Sep.st {K : PySem.W.Frag} {xs : List V} (S : Sep H0 ft H l) (i : Nat) (h : l[i]? = some (t, a, .tup xs)) : SqT K H a xs := .of (S.get i h)
theorem Sep.of0 : Sep H [] H [] := Sep.nil fun _ h => (nomatch h)
theorem Sep.of1 (h : H a = some o) : Sep H [a] H [(1, a, o)] := (Sep.nil fun b m => by rw [List.mem_singleton.mp m]; exact ⟨o, h⟩).add 1 h (fun _ z => nomatch z) (fun _ => List.mem_singleton_self a) (fun z => by cases z)
theorem Sep.of2 (h : H a = some o) (h' : H b = some u) (n : a ≠ b) : Sep H [a, b] H [(1, a, o), (1, b, u)] :=
  ((Sep.nil fun c m => (List.mem_cons.mp m).elim (fun e => by rw [e]; exact ⟨_, h⟩) fun m => by rw [List.mem_singleton.mp m]; exact ⟨_, h'⟩).add 1 h' (fun _ z => nomatch z) (fun _ => by simp) (fun z => by cases z)).add 1 h (fun c hc => by rw [List.mem_singleton.mp hc]; exact n.symm) (fun _ => by simp) (fun z => by cases z)
theorem Sep.out (S : Sep H0 ft H l) : ∀ b o, H0 b = some o → b ∉ ft → H b = some o := S.fr
theorem Sep.out1 (S : Sep H0 [a] H l) : ∀ b o, H0 b = some o → b ≠ a → H b = some o := fun b o e n => S.fr b o e (by simp [n])
theorem Sep.out2 (S : Sep H0 [a, b] H l) : ∀ c o, H0 c = some o → c ≠ a → c ≠ b → H c = some o := fun c o e n m => S.fr c o e (by simp [n, m])
end
/-! ### steps: what a reading asks, answered over the cells -/
section
variable {H0 H : Hp} {ft : List Addr} {l : List Cell} {t : Nat} {a p : Addr} {o : HO} {K : PySem.W.Frag} {σ : L2.St} {Q : VK} {v x y : V} {i j : Int}
theorem x_var {n : Nat} (h : σ[n]? = some (some v)) (q : Q v H) : tVar n σ H Q := ⟨v, h, q⟩
theorem x_ixF {xs : List V} (S : Sep H0 ft H l) (n : Nat) (h : l[n]? = some (t, p, .lst xs)) (ha : atI xs i = some v) (q : Q v H) : rIxL K (.ref p) (.int i) H Q := ⟨p, xs, i, v, rfl, rfl, S.sl n h, ha, q⟩
theorem x_ixT {xs : List V} (S : Sep H0 ft H l) (n : Nat) (h : l[n]? = some (t, p, .tup xs)) (ha : atI xs i = some v) (q : Q v H) : rIxT K (.ref p) (.int i) H Q := ⟨p, xs, i, v, rfl, rfl, S.st n h, ha, q⟩
theorem at_map {α : Type} {f : α → V} {cs : List α} {i : Int} (h0 : 0 ≤ i) (h : i < cs.length) : ∃ c, cs[i.toNat]? = some c ∧ atI (cs.map f) i = some (f c) := by
  have hl : i.toNat < cs.length := by omega
  refine ⟨cs[i.toNat], List.getElem?_eq_getElem hl, ?_⟩
  have e : ((i.toNat : Nat) : Int) = i := by omega
  have := atI_nat (xs := cs.map f) (j := i.toNat) (v := f cs[i.toNat]) (by rw [List.getElem?_map, List.getElem?_eq_getElem hl]; rfl)
  rw [e] at this
  exact this
theorem x_ixI {cs : List Int} (S : Sep H0 ft H l) (n : Nat) (h : l[n]? = some (t, p, .lst (cs.map V.int))) (h0 : 0 ≤ i) (h1 : i < cs.length) (q : ∀ c, cs[i.toNat]? = some c → Q (.int c) H) : rIxL K (.ref p) (.int i) H Q := by
  obtain ⟨c, hc, ha⟩ := at_map (f := V.int) h0 h1
  exact ⟨p, _, i, _, rfl, rfl, S.sl n h, ha, q c hc⟩
theorem x_ixS {cs : List Int} (hs : SqL K H p (cs.map V.int)) (h0 : 0 ≤ i) (h1 : i < cs.length) (q : ∀ c, cs[i.toNat]? = some c → Q (.int c) H) : rIxL K (.ref p) (.int i) H Q := by
  obtain ⟨c, hc, ha⟩ := at_map (f := V.int) h0 h1
  exact ⟨p, _, i, _, rfl, rfl, hs, ha, q c hc⟩
theorem x_setL {xs : List V} {k : Nat} {Qd : Hp → Prop} (S : Sep H0 ft H l) (n : Nat) (h : l[n]? = some (t, p, .lst xs)) (hj : ixN xs.length i = some k) (q : ∀ H', Sep H0 ft H' (l.set n (t, p, .lst (xs.set k v))) → Qd H')
    (ht : t = 1 ∨ t = 2 := by first | exact .inl rfl | exact .inr rfl) : rSetL (.ref p) (.int i) v H Qd := ⟨p, xs, i, k, rfl, rfl, S.get n h, hj, q _ (S.put n _ h ht)⟩
theorem ixN_in {n : Nat} (h0 : 0 ≤ i) (h : i < n) : ixN n i = some i.toNat := by unfold ixN; rw [if_pos h0, if_pos h]
theorem x_setI {cs : List Int} {Qd : Hp → Prop} (S : Sep H0 ft H l) (n : Nat) (h : l[n]? = some (t, p, .lst (cs.map V.int))) (h0 : 0 ≤ i) (h1 : i < cs.length) (q : ∀ H', Sep H0 ft H' (l.set n (t, p, .lst ((cs.set i.toNat j).map V.int))) → Qd H')
    (ht : t = 1 ∨ t = 2 := by first | exact .inl rfl | exact .inr rfl) : rSetL (.ref p) (.int i) (.int j) H Qd := by
  refine ⟨p, _, i, i.toNat, rfl, rfl, S.get n h, ixN_in h0 (by rw [List.length_map]; exact h1), ?_⟩
  have := S.put n (.lst ((cs.map V.int).set i.toNat (.int j))) h ht
  rw [← List.map_set] at this ⊢
  exact q _ this
def rLen (K : PySem.W.Frag) : List V → Hp → VK → Prop := fun xs H Q => ∃ p ys, xs = [.ref p] ∧ (SqL K H p ys ∨ SqT K H p ys) ∧ Q (.int ys.length) H
theorem cl_len {X : Cx} : CallR X (.builtin "len") (rLen X.K) := call_len_seq
theorem x_len {xs : List V} (S : Sep H0 ft H l) (n : Nat) (h : l[n]? = some (t, p, .lst xs)) (q : Q (.int xs.length) H) : rLen K [.ref p] H Q := ⟨p, xs, rfl, .inl (S.sl n h), q⟩
theorem x_lenI {cs : List Int} (S : Sep H0 ft H l) (n : Nat) (h : l[n]? = some (t, p, .lst (cs.map V.int))) (q : Q (.int cs.length) H) : rLen K [.ref p] H Q := ⟨p, _, rfl, .inl (S.sl n h), by rw [List.length_map]; exact q⟩
theorem x_lenT {xs : List V} (S : Sep H0 ft H l) (n : Nat) (h : l[n]? = some (t, p, .tup xs)) (q : Q (.int xs.length) H) : rLen K [.ref p] H Q := ⟨p, xs, rfl, .inr (S.st n h), q⟩
theorem x_lenS {cs : List Int} (hs : SqL K H p (cs.map V.int)) (q : Q (.int cs.length) H) : rLen K [.ref p] H Q := ⟨p, _, rfl, .inl hs, by rw [List.length_map]; exact q⟩
theorem x_I {C : Int → Int → Prop} {g : Int → Int → V} (c : C i j) (q : Q (g i j) H) : rI C g (.int i) (.int j) H Q := ⟨i, j, rfl, rfl, c, q⟩
theorem x_I0 {g : Int → Int → V} (q : Q (g i j) H) : rI0 g (.int i) (.int j) H Q := ⟨i, j, rfl, rfl, q⟩
theorem x_ip {f : Int → Int → Int} (q : Q (.int (f i j)) H) : ipI f (.int i) (.int j) H Q := ⟨i, j, rfl, rfl, q⟩
theorem x_U {g : Int → V} (q : Q (g i) H) : rU g (.int i) H Q := ⟨i, rfl, q⟩
theorem x_eq (q : Q (.bl (decide (x = y))) H) (s : scal x y = true := by rfl) : rEq x y H Q := ⟨s, q⟩
theorem x_ne (q : Q (.bl (!decide (x = y))) H) (s : scal x y = true := by rfl) : rNe x y H Q := ⟨s, q⟩
theorem x_bl {b : Bool} {R : Bool → Hp → Prop} (q : R b H) : ∃ k, V.bl b = .bl k ∧ R k H := ⟨b, rfl, q⟩
/-- a new object -/
theorem x_new (S : Sep H0 ft H l) (o : HO) {R : Addr → Hp → Prop} (q : ∀ p H', Sep H0 ft H' ((2, p, o) :: l) → R p H') : ∀ p, H p = none → R p (upd H p o) := fun p hp => q p _ (S.new hp o)
end
/-! ### more steps -/
section
variable {H0 H : Hp} {ft : List Addr} {l : List Cell} {t : Nat} {a p : Addr} {o : HO} {K : PySem.W.Frag} {σ : L2.St} {Q : VK} {v x y : V} {i j : Int}
theorem div_ok (h : 0 < j) (h2 : j < 2 ^ 200) : CDivW i j := wide_div (b := 200) h (by omega) (by decide) (by decide)
theorem x_if {tc : TT} {t u : TS} {D : Ends} (h : tc σ H fun b H1 => if b = true then t D σ H1 else u D σ H1) : tIfS tc t u D σ H := h
def ForJ (J : It) (g : TG) (tb : TS) (D : Ends) (σ : L2.St) (H : Hp) : Prop := ∃ W : Nat → Nat → L2.St → Hp → Prop, (∃ m, W 0 m σ H) ∧ ∀ i m σ H, W i m σ H →
  (J.stop i H ∧ D.nx σ H) ∨ (J.go i H ∧ ∃ N : L2.St → Hp → Prop, (∀ σ' H', N σ' H' → ∃ m', m' < m ∧ W (i + 1) m' σ' H') ∧ ∀ x H', J.yld i H x H' → g x σ H' fun σ2 H2 => tb { D with nx := N, ct := N, bk := D.nx } σ2 H2)
theorem x_for {wi : TI} {g : TG} {tb : TS} {D : Ends} (h : wi σ H fun J H1 => ForJ J g tb D σ H1) : tFor wi g tb D σ H := h
theorem forR {lo : Int} {n : Nat} {g : TG} {tb : TS} {D : Ends} (Pv : Nat → L2.St → Hp → Prop) (h0 : Pv 0 σ H)
    (hs : ∀ i σ H, i < n → Pv i σ H → g (.int (lo + i)) σ H fun σ2 H2 => tb { D with nx := Pv (i + 1), ct := Pv (i + 1), bk := D.nx } σ2 H2) (hd : ∀ σ H, Pv n σ H → D.nx σ H) : ForJ (Itr lo n) g tb D σ H := for_range Pv h0 hs hd
theorem forL {xs : List V} {g : TG} {tb : TS} {D : Ends} (Pv : Nat → L2.St → Hp → Prop) (h0 : Pv 0 σ H) (hl : ∀ i σ H, i ≤ xs.length → Pv i σ H → SqL K H a xs)
    (hs : ∀ i x σ H, xs[i]? = some x → Pv i σ H → g x σ H fun σ2 H2 => tb { D with nx := Pv (i + 1), ct := Pv (i + 1), bk := D.nx } σ2 H2) (hd : ∀ σ H, Pv xs.length σ H → D.nx σ H) : ForJ (Itl K a) g tb D σ H := for_list Pv h0 hl hs hd
def LcJ (J : It) (g : TG) (tt : TT) (te : TE) (vs : List Nat) (σ : L2.St) (H1 : Hp) (Q : VK) : Prop := ∀ D, H1 D = none → ∃ W : Nat → Nat → Hp → Prop, (∃ m, W 0 m (upd H1 D (.lst []))) ∧ ∀ i m H, W i m H →
  (J.stop i H ∧ Q (.ref D) H) ∨ (J.go i H ∧ ∃ Nx : Hp → Prop, (∀ H', Nx H' → ∃ m', m' < m ∧ W (i + 1) m' H') ∧ ∀ x H', J.yld i H x H' → g x (wipe σ vs) H' fun σ2 H2 => wipe σ2 vs = wipe σ vs ∧ tt σ2 H2 fun b H3 =>
    if b = true then te σ2 H3 fun y H4 => ∃ acc, H4 D = some (.lst acc) ∧ acc.length < sizeLine ∧ Nx (upd H4 D (.lst (acc ++ [y]))) else Nx H3)
theorem x_lc {wi : TI} {g : TG} {tt : TT} {te : TE} {vs : List Nat} (h : wi σ H fun J H1 => LcJ J g tt te vs σ H1 Q) : tLc wi g tt te vs σ H Q := h
/-- what a turn hands on is put behind the new list -/
def rLcA (D : Addr) (y : V) (H : Hp) (R : Hp → Prop) : Prop := ∃ acc, H D = some (.lst acc) ∧ acc.length < sizeLine ∧ R (upd H D (.lst (acc ++ [y])))
theorem lcR {lo : Int} {n : Nat} {g : TG} {tt : TT} {te : TE} {vs : List Nat} (S : Sep H0 ft H l) (h : ∀ D H1, Sep H0 ft H1 ((2, D, .lst []) :: l) → ∃ Pv : Nat → Hp → Prop, Pv 0 H1 ∧
    (∀ i H, i < n → Pv i H → g (.int (lo + i)) (wipe σ vs) H fun σ2 H2 => wipe σ2 vs = wipe σ vs ∧ tt σ2 H2 fun b H3 => if b = true then te σ2 H3 fun y H4 => rLcA D y H4 (Pv (i + 1)) else Pv (i + 1) H3) ∧
    ∀ H, Pv n H → Q (.ref D) H) : LcJ (Itr lo n) g tt te vs σ H Q := fun D hD =>
  let ⟨Pv, h0, hs, hd⟩ := h D _ (S.new hD (.lst []))
  lc_range (H1 := H) Pv h0 hs hd
theorem lcL {xs : List V} {g : TG} {tt : TT} {te : TE} {vs : List Nat} (S : Sep H0 ft H l) (h : ∀ D H1, Sep H0 ft H1 ((2, D, .lst []) :: l) → ∃ Pv : Nat → Hp → Prop, Pv 0 H1 ∧ (∀ i H, i ≤ xs.length → Pv i H → SqL K H a xs) ∧
    (∀ i x H, xs[i]? = some x → Pv i H → g x (wipe σ vs) H fun σ2 H2 => wipe σ2 vs = wipe σ vs ∧ tt σ2 H2 fun b H3 => if b = true then te σ2 H3 fun y H4 => rLcA D y H4 (Pv (i + 1)) else Pv (i + 1) H3) ∧
    ∀ H, Pv xs.length H → Q (.ref D) H) : LcJ (Itl K a) g tt te vs σ H Q := fun D hD =>
  let ⟨Pv, h0, hl, hs, hd⟩ := h D _ (S.new hD (.lst []))
  lc_list (H1 := H) Pv h0 hl hs hd
theorem x_lcapp {xs : List V} {R : Hp → Prop} (S : Sep H0 ft H l) (n : Nat) (h : l[n]? = some (t, p, .lst xs)) (hl : xs.length < 100000) (q : ∀ H', Sep H0 ft H' (l.set n (t, p, .lst (xs ++ [v]))) → R H') (ht : t = 1 ∨ t = 2 := by first | exact .inl rfl | exact .inr rfl) :
    rLcA p v H R := ⟨xs, S.get n h, Nat.lt_of_lt_of_le hl (by decide), q _ (S.put n _ h ht)⟩
theorem x_lcappI {cs : List Int} {R : Hp → Prop} (S : Sep H0 ft H l) (n : Nat) (h : l[n]? = some (t, p, .lst (cs.map V.int))) (hl : cs.length < 100000) (q : ∀ H', Sep H0 ft H' (l.set n (t, p, .lst ((cs ++ [i]).map V.int))) → R H') (ht : t = 1 ∨ t = 2 := by first | exact .inl rfl | exact .inr rfl) :
    rLcA p (.int i) H R := x_lcapp S n h (by rw [List.length_map]; exact hl) (fun H' S' => q H' (by rw [List.map_append]; exact S')) ht
theorem elem_of {α : Type} {f : α → V} {xs : List α} {n : Nat} {y : V} (h : (xs.map f)[n]? = some y) : ∃ z, xs[n]? = some z ∧ y = f z := by
  rw [List.getElem?_map] at h
  cases e : xs[n]? with
  | none => rw [e] at h; cases h
  | some z => rw [e] at h; exact ⟨z, rfl, (Option.some.inj h).symm⟩
theorem filter_snoc_pos {α : Type} {p : α → Bool} {xs : List α} {z : α} (h : p z = true) : xs.filter p ++ [z] = (xs ++ [z]).filter p := by rw [List.filter_append, List.filter_cons_of_pos h, List.filter_nil]
theorem filter_snoc_neg {α : Type} {p : α → Bool} {xs : List α} {z : α} (h : p z = false) : xs.filter p = (xs ++ [z]).filter p := by rw [List.filter_append, List.filter_cons_of_neg (by rw [h]; exact Bool.false_ne_true), List.filter_nil, List.append_nil]
theorem take_snoc {α : Type} {xs : List α} {n : Nat} {z : α} (h : xs[n]? = some z) : xs.take (n + 1) = xs.take n ++ [z] := by rw [List.take_add_one, h]; rfl
theorem lt_of_get {α : Type} {xs : List α} {n : Nat} {z : α} (h : xs[n]? = some z) : n < xs.length := (List.getElem?_eq_some_iff.mp h).1
theorem x_ifE {tt : TT} {ta tb : TE} (h : tt σ H fun c H1 => if c = true then ta σ H1 Q else tb σ H1 Q) : tIf tt ta tb σ H Q := h
/-- what follows a value is shown once -/
theorem x_ifx {tt : TT} {ta tb : TE} (R : V → Hp → Prop) (k : ∀ v H', R v H' → Q v H') (h : (∀ v H', R v H' → Q v H') → tIf tt ta tb σ H Q) : tIf tt ta tb σ H Q := h k
/-- what follows an if is shown once -/
theorem x_ifS {tc : TT} {t u : TS} {D : Ends} (R : L2.St → Hp → Prop) (k : ∀ σ H', R σ H' → D.nx σ H') (h : (∀ σ H', R σ H' → D.nx σ H') → tIfS tc t u D σ H) : tIfS tc t u D σ H := h k
theorem x_and {t u : TT} {R : Bool → Hp → Prop} (h : t σ H fun c H1 => if c = true then u σ H1 R else R false H1) : tAnd t u σ H R := h
theorem x_or {t u : TT} {R : Bool → Hp → Prop} (h : t σ H fun c H1 => if c = true then R true H1 else u σ H1 R) : tOr t u σ H R := h
theorem x_turn {G : L2.St → Hp → Prop} {R : (L2.St → Hp → Prop) → Prop} (h : R G) : ∃ N : L2.St → Hp → Prop, (∀ σ' H', N σ' H' → G σ' H') ∧ R N := ⟨_, fun _ _ z => z, h⟩
theorem x_while {tc : TT} {tb : TS} {D : Ends} (W : Nat → L2.St → Hp → Prop) (m : Nat) (w : W m σ H) (h : ∀ m σ H, W m σ H → tc σ H fun b H1 => if b = true then ∃ N : L2.St → Hp → Prop, (∀ σ' H', N σ' H' → ∃ m', m' < m ∧ W m' σ' H') ∧ tb { D with nx := N, ct := N, bk := D.nx } σ H1 else D.nx σ H1) :
    tWhile tc tb D σ H := ⟨W, ⟨m, w⟩, h⟩
theorem x_part {R : Option Int → Hp → Prop} (q : R (some i) H) : ∃ j, V.int i = .int j ∧ R (some j) H := ⟨i, rfl, q⟩
theorem x_slL {xs : List V} {lo hi : Option Int} (S : Sep H0 ft H l) (n : Nat) (h : l[n]? = some (t, p, .lst xs)) (q : ∀ r H', Sep H0 ft H' ((2, r, .lst (cutV xs lo hi)) :: l) → Q (.ref r) H') : rSlL K (.ref p) lo hi H Q := ⟨p, xs, rfl, S.sl n h, x_new S _ q⟩
/-- a slice of a list of ints -/
def cutI {α : Type} (xs : List α) (lo hi : Option Int) : List α := (xs.drop (HT.sIx xs.length 0 lo)).take (HT.sIx xs.length xs.length hi - HT.sIx xs.length 0 lo)
theorem cutV_map {α : Type} (f : α → V) (xs : List α) (lo hi : Option Int) : cutV (xs.map f) lo hi = (cutI xs lo hi).map f := by
  unfold cutV cutI
  rw [List.length_map, ← List.map_drop, ← List.map_take]
theorem x_slI {cs : List Int} {lo hi : Option Int} (S : Sep H0 ft H l) (n : Nat) (h : l[n]? = some (t, p, .lst (cs.map V.int))) (q : ∀ r H', Sep H0 ft H' ((2, r, .lst ((cutI cs lo hi).map V.int)) :: l) → Q (.ref r) H') : rSlL K (.ref p) lo hi H Q :=
  ⟨p, _, rfl, S.sl n h, by rw [cutV_map]; exact x_new S _ q⟩
theorem cutI_nat {α : Type} (xs : List α) {i j : Int} (h0 : 0 ≤ i) (h1 : i ≤ j) (h2 : j ≤ xs.length) : cutI xs (some i) (some j) = (xs.drop i.toNat).take (j.toNat - i.toNat) := by
  unfold cutI
  have e1 : i = (i.toNat : Int) := by omega
  have e2 : j = (j.toNat : Int) := by omega
  rw [e1, e2, HT.sIx_nat, HT.sIx_nat, Nat.min_eq_left (by omega), Nat.min_eq_left (by omega), Int.toNat_natCast, Int.toNat_natCast]
def rMax2 : List V → Hp → VK → Prop := fun xs H Q => ∃ i j, xs = [.int i, .int j] ∧ Q (.int (max i j)) H
def rMin2 : List V → Hp → VK → Prop := fun xs H Q => ∃ i j, xs = [.int i, .int j] ∧ Q (.int (min i j)) H
theorem cl_max {X : Cx} (hc : X.calm = true) : CallR X (.builtin "max") rMax2 := fun pins s σ H xs us Q I r ⟨i, j, e, q⟩ => call_max2 hc pins s σ H xs us Q I r ⟨i, j, e, by
  have : (if j > i then j else i) = max i j := by split <;> omega
  rw [this]; exact q⟩
theorem cl_min {X : Cx} (hc : X.calm = true) : CallR X (.builtin "min") rMin2 := fun pins s σ H xs us Q I r ⟨i, j, e, q⟩ => call_min2 hc pins s σ H xs us Q I r ⟨i, j, e, by
  have : (if j < i then j else i) = min i j := by split <;> omega
  rw [this]; exact q⟩
theorem x_max (q : Q (.int (max i j)) H) : rMax2 [.int i, .int j] H Q := ⟨i, j, rfl, q⟩
theorem x_min (q : Q (.int (min i j)) H) : rMin2 [.int i, .int j] H Q := ⟨i, j, rfl, q⟩
/-- what the rules ask, under names -/
def rIL (K : PySem.W.Frag) : V → Hp → (It → Hp → Prop) → Prop := fun x H R => ∃ a, x = .ref a ∧ (∃ xs, SqL K H a xs) ∧ R (Itl K a) H
def rIT (K : PySem.W.Frag) : V → Hp → (It → Hp → Prop) → Prop := fun x H R => ∃ a, x = .ref a ∧ (∃ xs, SqT K H a xs) ∧ R (Itt K a) H
def iList1 (K : PySem.W.Frag) (tl : TE) : TI := fun σ H R => tl σ H fun x H1 => rIL K x H1 R
def iTup1 (K : PySem.W.Frag) (tl : TE) : TI := fun σ H R => tl σ H fun x H1 => rIT K x H1 R
theorem pi_list1 {X : Cx} {tg e : Expr} {tl : TE} (h : PE X e tl) : PI X tg e (iList1 X.K tl) := pi_list h
theorem pi_tup1 {X : Cx} {tg e : Expr} {tl : TE} (h : PE X e tl) : PI X tg e (iTup1 X.K tl) := pi_tup h

def rLst : List V → Hp → VK → Prop := fun xs H Q => xs.length ≤ sizeLine ∧ ∀ p, H p = none → Q (.ref p) (upd H p (.lst xs))
def rTup : List V → Hp → VK → Prop := fun xs H Q => xs.length ≤ sizeLine ∧ ∀ p, H p = none → Q (.ref p) (upd H p (.tup xs))
theorem pe_lst1 {X : Cx} {es : List Expr} {t : TA} {pos : Pos} (h : PA X es t) : PE X (.List es pos) (tCB rLst t) := pe_lst h
theorem pe_tup1 {X : Cx} {es : List Expr} {t : TA} {pos : Pos} {x1} (h : PA X es t) : PE X (.Tuple es x1 pos) (tCB rTup t) := pe_tup h
def rFld (K : PySem.W.Frag) (f : Str) : V → Hp → VK → Prop := fun x H Q => ∃ a C dx fs v, x = .ref a ∧ H a = some (.ins C dx fs) ∧ Cls K C ∧ NoAttr K C f ∧ fs.lookup f = some v ∧ Q v H
def rFldA (K : PySem.W.Frag) (f : Str) : V → Hp → (Addr → Addr → V → Prop) → Prop := fun x H R => ∃ a C dx fs v, x = .ref a ∧ H a = some (.ins C dx fs) ∧ Cls K C ∧ NoAttr K C f ∧ fs.lookup f = some v ∧ R a C v
def rPutA (f : Str) (a C : Addr) : V → Hp → (Hp → Prop) → Prop := fun z H R => ∃ dx fs, H a = some (.ins C dx fs) ∧ fs.length < 1000 ∧ R (upd H a (.ins C dx (putF f z fs)))
def rSFld (K : PySem.W.Frag) (f : Str) : V → V → Hp → (Hp → Prop) → Prop := fun x y H R => ∃ a C dx fs, x = .ref a ∧ H a = some (.ins C dx fs) ∧ Cls K C ∧ NoAttr K C f ∧ fs.length < 1000 ∧ R (upd H a (.ins C dx (putF f y fs)))
def sFld1 (K : PySem.W.Frag) (ta tv : TE) (f : Str) : TS := fun D σ H => tv σ H fun y H1 => ta σ H1 fun x H2 => rSFld K f x y H2 fun H3 => D.nx σ H3
def sFldAug1 (K : PySem.W.Frag) (ta tv : TE) (rd : V → V → Hp → VK → Prop) (f : Str) : TS := fun D σ H => ta σ H fun x H1 => rFldA K f x H1 fun a C v => tv σ H1 fun y H2 => rd v y H2 fun z H3 => rPutA f a C z H3 fun H4 => D.nx σ H4
def rMe (C : Addr) (m : Str) : V → Hp → Prop → Prop := fun x H R => ∃ a dx fs, x = .ref a ∧ H a = some (.ins C dx fs) ∧ fs.lookup m = none ∧ R
def tMeth1 (C : Addr) (m : Str) (sp : Sp) (dvs : List V) (E : XK) (ta : TE) (t : TA) : TE := fun σ H Q => ta σ H fun x H1 => rMe C m x H1 (t σ H1 fun vs H2 => sp (x :: (vs ++ dvs)) H2 Q E)
def rDIn : V → V → Hp → VK → Prop := fun y x H Q => ∃ a o, x = .ref a ∧ DGet H a y o ∧ Q (.bl o.isSome) H
def rDNi : V → V → Hp → VK → Prop := fun y x H Q => ∃ a o, x = .ref a ∧ DGet H a y o ∧ Q (.bl (!o.isSome)) H
def rDGet : V → V → Hp → VK → Prop := fun x y H Q => ∃ a v, x = .ref a ∧ DGet H a y (some v) ∧ Q v H
def rDPut : V → V → V → Hp → (Hp → Prop) → Prop := fun x y v H R => ∃ a H4, x = .ref a ∧ DPut H a y v H4 ∧ R H4
def sDPut1 (td ty tv : TE) : TS := fun D σ H => tv σ H fun v H1 => td σ H1 fun x H2 => ty σ H2 fun y H3 => rDPut x y v H3 fun H4 => D.nx σ H4
def rDPop (a : Addr) : V → Hp → VK → Prop := fun y H Q => ∃ kvs k v, H a = some (.dK kvs) ∧ y = kV k ∧ valV kvs k = some v ∧ Q v (upd H a (.dK (dropK kvs k)))
def rIsD : V → Hp → (Addr → Prop) → Prop := fun x H R => ∃ a, x = .ref a ∧ IsD H a ∧ R a
def tDPop (td ty : TE) : TE := fun σ H Q => td σ H fun x H1 => rIsD x H1 fun a => ty σ H1 fun y H2 => rDPop a y H2 Q
section
variable {X : Cx} {CX : CXT} {k j : Nat} {C : Addr} {f m : Str} {sp : Sp} {E : XK} {p pos pos' apos tpos cpos : Pos} {e i value : Expr} {es : List Expr} {td ty tv : TE} {ta : TE} {t : TA}
theorem pe_fld1 (he : PE X e ta) (hb : attributeBase e f X.env (eval e X.env) = eval e X.env) : PE X (.Attribute e f pos) (tUn (rFld X.K f) ta) := pe_fld he hb
theorem ps_fld1 (ha : PE X e ta) (hv : PE X value tv) (hs : swapsWith value (some (.Attribute e f pos')) pos.line X.env = pure false) : PS X (.Assign [.Attribute e f pos'] value pos) (sFld1 X.K ta tv f) := ps_fld ha hv hs
theorem ps_fldaug1 {op : Operator} {rd : V → V → Hp → VK → Prop} (ha : PE X e ta) (hv : PE X value tv) (hop : InOp X op rd) : PS X (.AugAssign (.Attribute e f tpos) op value pos) (sFldAug1 X.K ta tv rd f) := ps_fldaug ha hv hop
theorem pc_din1 (hu : X.A.units + 1 < cLine) (hi : PE X i ty) (ho : PE X e td) : PC X .In i e (tOp rDIn ty td) := pc_din hu hi ho
theorem pc_dni1 (hu : X.A.units + 1 < cLine) (hi : PE X i ty) (ho : PE X e td) : PC X .NotIn i e (tOp rDNi ty td) := pc_dnotin hu hi ho
theorem pe_dget1v (hu : X.A.units + 1 < cLine) (ho : PE X e td) (hi : PE X i ty) (hs : NoSl i) : PE X (.Subscript e i pos) (tOp rDGet td ty) := pe_dget hu ho hi hs
theorem ps_dput1 (hu : X.A.units + 1 < cLine) (ho : PE X e td) (hi : PE X i ty) (hv : PE X value tv) (hs : swapsWith value (some (.Subscript e i pos')) pos.line X.env = pure false) : PS X (.Assign [.Subscript e i pos'] value pos) (sDPut1 td ty tv) := ps_dput hu ho hi hv hs
theorem pe_dpop (ho : PE X e td) (he : PE X i ty) (m : M1 X e "pop" apos i cpos) : PE X (.Call (.Attribute e "pop" apos) [i] [] cpos) (tDPop td ty) := pe_dpop1 ho he m
end
theorem x_lst {xs : List V} (S : Sep H0 ft H l) (hl : xs.length ≤ 100000) (q : ∀ p H', Sep H0 ft H' ((2, p, .lst xs) :: l) → Q (.ref p) H') : rLst xs H Q := ⟨Nat.le_trans hl (by decide), x_new S _ q⟩
theorem x_tup {xs : List V} (S : Sep H0 ft H l) (hl : xs.length ≤ 100000) (q : ∀ p H', Sep H0 ft H' ((2, p, .tup xs) :: l) → Q (.ref p) H') : rTup xs H Q := ⟨Nat.le_trans hl (by decide), x_new S _ q⟩
theorem x_dnew (S : Sep H0 ft H l) (q : ∀ p H', Sep H0 ft H' ((2, p, .dK []) :: l) → Q (.ref p) H') : tDNewK σ H Q := x_new S _ q
def rListOf (K : PySem.W.Frag) : List V → Hp → VK → Prop := fun xs H Q => ∃ p ys, xs = [.ref p] ∧ (SqL K H p ys ∨ SqT K H p ys) ∧ ∀ l, H l = none → Q (.ref l) (upd H l (.lst ys))
theorem cl_list {X : Cx} : CallR X (.type "list") (rListOf X.K) := call_list_of
theorem x_listS {xs : List V} (S : Sep H0 ft H l) (hs : SqL K H p xs) (q : ∀ r H', Sep H0 ft H' ((2, r, .lst xs) :: l) → Q (.ref r) H') : rListOf K [.ref p] H Q := ⟨p, xs, rfl, .inl hs, x_new S _ q⟩
/-! the rules over the written part K, said -/
section
variable {X : Cx} {e : Expr} {tl : TE} {tg : Expr} {f : Str} {pos : Pos}
theorem cl_lenK (K : PySem.W.Frag) (h : X.K = K := by rfl) : CallR X (.builtin "len") (rLen K) := by subst h; exact cl_len
theorem cl_listK (K : PySem.W.Frag) (h : X.K = K := by rfl) : CallR X (.type "list") (rListOf K) := by subst h; exact cl_list
theorem ix_listK (K : PySem.W.Frag) (h : X.K = K := by rfl) : IxR X (rIxL K) := by subst h; exact ix_list
theorem ix_tupK (K : PySem.W.Frag) (h : X.K = K := by rfl) : IxR X (rIxT K) := by subst h; exact ix_tup
theorem sl_listK (K : PySem.W.Frag) (h : X.K = K := by rfl) : SlR X (rSlL K) := by subst h; exact sl_list
theorem sl_tupK (K : PySem.W.Frag) (h : X.K = K := by rfl) : SlR X (rSlT K) := by subst h; exact sl_tup
theorem op_eqDK (K : PySem.W.Frag) (hu : X.A.units + 64 < cLine) (h : X.K = K := by rfl) : OpR X (compareOp .Eq) (rEqD K) := by subst h; exact op_eqD hu
theorem op_neDK (K : PySem.W.Frag) (hu : X.A.units + 64 < cLine) (h : X.K = K := by rfl) : OpR X (compareOp .NotEq) (rNeD K) := by subst h; exact op_neD hu
theorem pe_fldK (K : PySem.W.Frag) (he : PE X e tl) (hb : attributeBase e f X.env (eval e X.env) = eval e X.env := by rfl) (h : X.K = K := by rfl) : PE X (.Attribute e f pos) (tUn (rFld K f) tl) := by subst h; exact pe_fld1 he hb
theorem pi_listK (K : PySem.W.Frag) (he : PE X e tl) (h : X.K = K := by rfl) : PI X tg e (iList1 K tl) := by subst h; exact pi_list1 he
theorem pi_tupK (K : PySem.W.Frag) (he : PE X e tl) (h : X.K = K := by rfl) : PI X tg e (iTup1 K tl) := by subst h; exact pi_tup1 he
end
theorem x_ilist {xs : List V} {R : It → Hp → Prop} (S : Sep H0 ft H l) (n : Nat) (h : l[n]? = some (t, p, .lst xs)) (q : R (Itl K p) H) : rIL K (.ref p) H R := ⟨p, rfl, ⟨xs, S.sl n h⟩, q⟩
theorem x_itup {xs : List V} {R : It → Hp → Prop} (S : Sep H0 ft H l) (n : Nat) (h : l[n]? = some (t, p, .tup xs)) (q : R (Itt K p) H) : rIT K (.ref p) H R := ⟨p, rfl, ⟨xs, S.st n h⟩, q⟩
/-- dicts -/
theorem x_din {kvs : List (Key × V)} {k : Key} (S : Sep H0 ft H l) (n : Nat) (h : l[n]? = some (t, p, .dK kvs)) (q : Q (.bl (valV kvs k).isSome) H) : rDIn (kV k) (.ref p) H Q := ⟨p, _, rfl, DGet.k (S.get n h), q⟩
theorem x_dni {kvs : List (Key × V)} {k : Key} (S : Sep H0 ft H l) (n : Nat) (h : l[n]? = some (t, p, .dK kvs)) (q : Q (.bl (!(valV kvs k).isSome)) H) : rDNi (kV k) (.ref p) H Q := ⟨p, _, rfl, DGet.k (S.get n h), q⟩
theorem x_dget {kvs : List (Key × V)} {k : Key} (S : Sep H0 ft H l) (n : Nat) (h : l[n]? = some (t, p, .dK kvs)) (hv : valV kvs k = some v) (q : Q v H) : rDGet (.ref p) (kV k) H Q := ⟨p, v, rfl, by rw [← hv]; exact DGet.k (S.get n h), q⟩
theorem x_dput {kvs : List (Key × V)} {k : Key} {R : Hp → Prop} (S : Sep H0 ft H l) (n : Nat) (h : l[n]? = some (t, p, .dK kvs)) (hl : kvs.length < 100000) (q : ∀ H', Sep H0 ft H' (l.set n (t, p, .dK (putK kvs k v))) → R H')
    (ht : t = 1 ∨ t = 2 := by first | exact .inl rfl | exact .inr rfl) : rDPut (.ref p) (kV k) v H R := ⟨p, _, rfl, DPut.k (S.get n h) (Nat.lt_of_lt_of_le hl (by decide)), q _ (S.put n _ h ht)⟩
theorem x_isD {kvs : List (Key × V)} {R : Addr → Prop} (S : Sep H0 ft H l) (n : Nat) (h : l[n]? = some (t, p, .dK kvs)) (q : R p) : rIsD (.ref p) H R := ⟨p, rfl, .inl ⟨_, .inl (S.get n h)⟩, q⟩
theorem x_dpop {kvs : List (Key × V)} {k : Key} (S : Sep H0 ft H l) (n : Nat) (h : l[n]? = some (t, p, .dK kvs)) (hv : valV kvs k = some v) (q : ∀ H', Sep H0 ft H' (l.set n (t, p, .dK (dropK kvs k))) → Q v H')
    (ht : t = 1 ∨ t = 2 := by first | exact .inl rfl | exact .inr rfl) : rDPop p (kV k) H Q := ⟨kvs, k, v, S.get n h, rfl, hv, q _ (S.put n _ h ht)⟩
/-- fields -/
theorem x_fld {C dx : Addr} {fs : List (Str × V)} {f : Str} (S : Sep H0 ft H l) (n : Nat) (h : l[n]? = some (t, p, .ins C dx fs)) (c : Cls K C) (na : NoAttr K C f) (hf : fs.lookup f = some v) (q : Q v H) : rFld K f (.ref p) H Q := ⟨p, C, dx, fs, v, rfl, S.get n h, c, na, hf, q⟩
theorem x_fldA {C dx : Addr} {fs : List (Str × V)} {f : Str} {R : Addr → Addr → V → Prop} (S : Sep H0 ft H l) (n : Nat) (h : l[n]? = some (t, p, .ins C dx fs)) (c : Cls K C) (na : NoAttr K C f) (hf : fs.lookup f = some v) (q : R p C v) : rFldA K f (.ref p) H R := ⟨p, C, dx, fs, v, rfl, S.get n h, c, na, hf, q⟩
theorem x_sfld {C dx : Addr} {fs fs' : List (Str × V)} {f : Str} {R : Hp → Prop} (S : Sep H0 ft H l) (n : Nat) (h : l[n]? = some (t, p, .ins C dx fs)) (c : Cls K C) (na : NoAttr K C f) (e : putF f v fs = fs') (hl : fs.length < 1000) (q : ∀ H', Sep H0 ft H' (l.set n (t, p, .ins C dx fs')) → R H')
    (ht : t = 1 ∨ t = 2 := by first | exact .inl rfl | exact .inr rfl) : rSFld K f (.ref p) v H R :=
  ⟨p, C, dx, fs, rfl, S.get n h, c, na, hl, by rw [e]; exact q _ (S.put n _ h ht)⟩
theorem x_augf {C dx : Addr} {fs fs' : List (Str × V)} {f : Str} {R : Hp → Prop} (S : Sep H0 ft H l) (n : Nat) (h : l[n]? = some (t, p, .ins C dx fs)) (e : putF f v fs = fs') (hl : fs.length < 1000) (q : ∀ H', Sep H0 ft H' (l.set n (t, p, .ins C dx fs')) → R H')
    (ht : t = 1 ∨ t = 2 := by first | exact .inl rfl | exact .inr rfl) : rPutA f p C v H R :=
  ⟨dx, fs, S.get n h, hl, by rw [e]; exact q _ (S.put n _ h ht)⟩
theorem x_meth {C dx : Addr} {fs : List (Str × V)} {m : Str} {R : Prop} (S : Sep H0 ft H l) (n : Nat) (h : l[n]? = some (t, p, .ins C dx fs)) (hl : fs.lookup m = none) (q : R) : rMe C m (.ref p) H R := ⟨p, dx, fs, rfl, S.get n h, hl, q⟩
theorem x_add (q : Q (.int (i + j)) H) : rAdd (.int i) (.int j) H Q := ⟨i, j, rfl, rfl, q⟩
theorem x_sub (q : Q (.int (i - j)) H) : rSub (.int i) (.int j) H Q := ⟨i, j, rfl, rfl, q⟩
/-- lists' methods -/
theorem x_app {xs : List V} (S : Sep H0 ft H l) (n : Nat) (h : l[n]? = some (t, p, .lst xs)) (hl : xs.length < 100000) (q : ∀ H', Sep H0 ft H' (l.set n (t, p, .lst (xs ++ [v]))) → Q .non H') (ht : t = 1 ∨ t = 2 := by first | exact .inl rfl | exact .inr rfl) :
    rAppend (.ref p) [v] H Q := ⟨p, xs, v, rfl, rfl, S.get n h, Nat.lt_of_lt_of_le hl (by decide), q _ (S.put n _ h ht)⟩
theorem x_ty {xs : List V} (S : Sep H0 ft H l) (n : Nat) (h : l[n]? = some (t, p, .lst xs)) : tyV K "list" (.ref p) H := .inl ⟨rfl, xs, S.sl n h⟩
def rInsert : V → List V → Hp → VK → Prop := fun x vs H Q => ∃ (l : Addr) (xs : List V) (i : Int) (y : V), x = .ref l ∧ vs = [.int i, y] ∧ H l = some (.lst xs) ∧ xs.length < sizeLine ∧ 0 ≤ i ∧ i < 2 ^ 63 ∧ Q .non (upd H l (.lst (xs.take i.toNat ++ [y] ++ xs.drop i.toNat)))
theorem mt_ins {X : Cx} : MtR X "list.insert" rInsert := mt_insert
theorem x_ins {xs : List V} (S : Sep H0 ft H l) (n : Nat) (h : l[n]? = some (t, p, .lst xs)) (hl : xs.length < 100000) (h0 : 0 ≤ i) (h1 : i < 2 ^ 63) (q : ∀ H', Sep H0 ft H' (l.set n (t, p, .lst (xs.take i.toNat ++ [v] ++ xs.drop i.toNat))) → Q .non H')
    (ht : t = 1 ∨ t = 2 := by first | exact .inl rfl | exact .inr rfl) : rInsert (.ref p) [.int i, v] H Q := ⟨p, xs, i, v, rfl, rfl, S.get n h, Nat.lt_of_lt_of_le hl (by decide), h0, h1, q _ (S.put n _ h ht)⟩
/-- a list of ints with one put in -/
def insAt {α : Type} (ys : List α) (i : Int) (v : α) : List α := ys.take i.toNat ++ [v] ++ ys.drop i.toNat
theorem mem_insAt {α : Type} {ys : List α} {i : Int} {v x : α} : x ∈ insAt ys i v ↔ x = v ∨ x ∈ ys := by
  unfold insAt
  rw [List.append_assoc, List.mem_append, List.mem_append, List.mem_singleton]
  constructor
  · rintro (h | h | h)
    · exact .inr (List.mem_of_mem_take h)
    · exact .inl h
    · exact .inr (List.mem_of_mem_drop h)
  · rintro (h | h)
    · exact .inr (.inl h)
    · rw [← List.take_append_drop i.toNat ys] at h
      rcases List.mem_append.mp h with h | h
      · exact .inl h
      · exact .inr (.inr h)
theorem len_insAt {α : Type} {ys : List α} {i : Int} {v : α} : (insAt ys i v).length = ys.length + 1 := by
  unfold insAt
  rw [List.length_append, List.length_append, List.length_take, List.length_drop, List.length_singleton]
  omega
theorem insAt_map {α : Type} (f : α → V) (ys : List α) (i : Int) (v : α) : (ys.map f).take i.toNat ++ [f v] ++ (ys.map f).drop i.toNat = (insAt ys i v).map f := by
  unfold insAt
  rw [List.map_append, List.map_append, List.map_take, List.map_drop, List.map_singleton]
theorem x_insI {cs : List Int} (S : Sep H0 ft H l) (n : Nat) (h : l[n]? = some (t, p, .lst (cs.map V.int))) (hl : cs.length < 100000) (h0 : 0 ≤ i) (h1 : i < 2 ^ 63) (q : ∀ H', Sep H0 ft H' (l.set n (t, p, .lst ((insAt cs i j).map V.int))) → Q .non H')
    (ht : t = 1 ∨ t = 2 := by first | exact .inl rfl | exact .inr rfl) : rInsert (.ref p) [.int i, .int j] H Q := by
  refine x_ins S n h (by rw [List.length_map]; exact hl) h0 h1 (fun H' S' => q H' ?_) ht
  rw [insAt_map] at S'
  exact S'
/-- data compared -/
theorem dp_ints {ns : List Int} : DpAll K H (ns.map V.int) (ns.map PyData.int) := by
  induction ns with
  | nil => exact .nil
  | cons n r ih => exact .cons (.int n) ih
theorem lay_ints : ∀ ns : List Int, PyData.canLayAll0 (ns.map PyData.int) = true
  | [] => rfl
  | n :: r => lay_ints r
theorem dep_ints : ∀ ns : List Int, PyData.depthAll (ns.map PyData.int) = 0
  | [] => rfl
  | n :: r => by rw [List.map_cons, PyData.depthAll, dep_ints r]; rfl
theorem sh_list (ns : List Int) : SeqAt.shaped (.list (ns.map PyData.int)) = true := by
  unfold SeqAt.shaped
  rw [show PyData.canLay0 (.list (ns.map PyData.int)) = true from lay_ints ns, PyData.depth, dep_ints]
  rfl
theorem sh_tup (ns : List Int) : SeqAt.shaped (.tuple (ns.map PyData.int)) = true := by
  unfold SeqAt.shaped
  rw [show PyData.canLay0 (.tuple (ns.map PyData.int)) = true from lay_ints ns, PyData.depth, dep_ints]
  rfl
theorem eqv_list (ns ms : List Int) : PyData.eqv (.list (ns.map PyData.int)) (.list (ms.map PyData.int)) = decide (ns = ms) := PySem.W.Datum.eqv (α := List Int) ns ms
theorem eqv_tup (ns ms : List Int) : PyData.eqv (.tuple (ns.map PyData.int)) (.tuple (ms.map PyData.int)) = decide (ns = ms) := by
  have := PySem.W.Datum.eqv (α := PySem.W.Tup Int) ⟨ns⟩ ⟨ms⟩
  rw [show PyData.eqv (.tuple (ns.map PyData.int)) (.tuple (ms.map PyData.int)) = decide ((⟨ns⟩ : PySem.W.Tup Int) = ⟨ms⟩) from this]
  exact decide_eq_decide.mpr ⟨fun e => congrArg PySem.W.Tup.items e, fun e => by rw [e]⟩
theorem x_neSq {q : Addr} {xs ys : List Int} (hx : SqL K H p (xs.map V.int)) (hy : SqL K H q (ys.map V.int)) (k : Q (.bl (!decide (xs = ys))) H) : rNeD K (.ref p) (.ref q) H Q :=
  ⟨_, _, .lst hx dp_ints, .lst hy dp_ints, sh_list xs, sh_list ys, by rw [eqv_list]; exact k⟩
theorem x_neL {q : Addr} {xs ys : List Int} {t' : Nat} (S : Sep H0 ft H l) (n m : Nat) (h : l[n]? = some (t, p, .lst (xs.map V.int))) (h' : l[m]? = some (t', q, .lst (ys.map V.int))) (k : Q (.bl (!decide (xs = ys))) H) : rNeD K (.ref p) (.ref q) H Q :=
  x_neSq (S.sl n h) (S.sl m h') k
theorem x_eqP {q : Addr} {a b c d : Int} {t' : Nat} (S : Sep H0 ft H l) (n m : Nat) (h : l[n]? = some (t, p, .tup [.int a, .int b])) (h' : l[m]? = some (t', q, .tup [.int c, .int d])) (k : Q (.bl (decide (([a, b] : List Int) = [c, d]))) H) : rEqD K (.ref p) (.ref q) H Q :=
  ⟨_, _, .tup (S.st n h) (dp_ints (ns := [a, b])), .tup (S.st m h') (dp_ints (ns := [c, d])), sh_tup _, sh_tup _, by rw [eqv_tup]; exact k⟩
theorem x_neP {q : Addr} {a b c d : Int} {t' : Nat} (S : Sep H0 ft H l) (n m : Nat) (h : l[n]? = some (t, p, .tup [.int a, .int b])) (h' : l[m]? = some (t', q, .tup [.int c, .int d])) (k : Q (.bl (!decide (([a, b] : List Int) = [c, d]))) H) : rNeD K (.ref p) (.ref q) H Q :=
  ⟨_, _, .tup (S.st n h) (dp_ints (ns := [a, b])), .tup (S.st m h') (dp_ints (ns := [c, d])), sh_tup _, sh_tup _, by rw [eqv_tup]; exact k⟩
end
/-! ### defs as facts -/
structure Cal (P : Program) (w : World) (K : PySem.W.Frag) (mg : Str → Option Value) (base : Heap) (CX : CXT) (k : Nat) (x : Str) (sp : Sp) : Prop where
  ex : ∃ (f : Addr) (fd : FuncData) (ps : List Str), FnOk P w K mg base CX k f fd ps sp ∧ mg x = some (.ref f) ∧ PySem.W.keepIn K (.ref f) = true ∧ Binds K fd ps []
structure Met (P : Program) (w : World) (K : PySem.W.Frag) (mg : Str → Option Value) (base : Heap) (CX : CXT) (k : Nat) (C : Addr) (m : Str) (sp : Sp) : Prop where
  ex : ∃ (f : Addr) (fd : FuncData) (ps : List Str), Cls K C ∧ L2.Meth K C m f ∧ FnOk P w K mg base CX k f fd ps sp ∧ Binds K fd ps []
/-- C(k = v, ..): all keyword-only, no other parameters -/
structure MakK (P : Program) (w : World) (K : PySem.W.Frag) (mg : Str → Option Value) (base : Heap) (CX : CXT) (k : Nat) (x : Str) (C : Addr) (ks : List Str) (sp : Sp) : Prop where
  ex : ∃ (f : Addr) (fd : FuncData) (ps : List Str) (g : List Value → List Value → List Value), Mk K C f ∧ FnOk P w K mg base CX k f fd ps sp ∧ mg x = some (.ref C) ∧ KBn K fd ps 1 ks g (fun vs zs => vs ++ zs)
section
variable {X : Cx} {CX : CXT} {k j : Nat} {C : Addr} {x m : Str} {sp : Sp} {E : XK} {p pos apos : Pos} {e o : Expr} {es : List Expr} {kws : List Keyword} {ks : List Str} {ta : TE} {t tk : TA}
theorem pe_c (c : Cal X.prog X.w X.K X.mg X.base CX k x sp) (hr : Room j X.A) (hk : k ≤ j) (hg : Gl X x) (hx : Passes CX X E) (ha : PA X (e :: es) t)
    (hdb : (x == ("__debug__" : Str)) = false := by decide) (he : starEach (e :: es) X.env = (false, eval e X.env) :: starEach es X.env := by rfl) (hpl : (backTo pos (starEach es X.env)).any (·.1) = false := by rfl) :
    PE X (.Call (.Name x p) (e :: es) [] pos) (tCall sp [] E t) := by
  obtain ⟨f, fd, ps, F, hm, kp, b⟩ := c.ex
  exact pe_call F (hr.mono hk) hg hm kp b .nil hx ha hdb he hpl
theorem pe_mt {pl : Sem Bool} (c : Met X.prog X.w X.K X.mg X.base CX k C m sp) (hr : Room j X.A) (hk : k ≤ j) (hx : Passes CX X E) (he : PE X o ta) (ha : PA X (e :: es) t)
    (hst : starEach (e :: es) X.env = (false, eval e X.env) :: starEach es X.env := by rfl) (hpl : (backTo pos (starEach es X.env)).any (·.1) = false := by rfl)
    (ht : eval (.Call (.Attribute o m apos) (e :: es) [] pos) X.env = (do
      let ov ← eval o X.env
      standAt apos.atName
      let (f, first) ← holding [ov] (getMethod ov m pl)
      callWith pos f first (backTo pos (starEach (e :: es) X.env)) (backToKw pos (keywordEach [] X.env))) := by rfl) :
    PE X (.Call (.Attribute o m apos) (e :: es) [] pos) (tMeth1 C m sp [] E ta t) := by
  obtain ⟨f, fd, ps, hc, hm, F, b⟩ := c.ex
  exact pe_meth (pl := pl) he hc hm F (hr.mono hk) b .nil hx ha hst hpl ht
theorem pe_mt0 {pl : Sem Bool} (c : Met X.prog X.w X.K X.mg X.base CX k C m sp) (hr : Room j X.A) (hk : k ≤ j) (hx : Passes CX X E) (he : PE X o ta)
    (ht : eval (.Call (.Attribute o m apos) [] [] pos) X.env = (do
      let ov ← eval o X.env
      standAt apos.atName
      let (f, first) ← holding [ov] (getMethod ov m pl)
      callWith pos f first (backTo pos (starEach [] X.env)) (backToKw pos (keywordEach [] X.env))) := by rfl) :
    PE X (.Call (.Attribute o m apos) [] [] pos) (tMeth1 C m sp [] E ta tNil) := by
  obtain ⟨f, fd, ps, hc, hm, F, b⟩ := c.ex
  exact pe_meth0 (pl := pl) he hc hm F (hr.mono hk) b .nil hx ht
def rMkK (C : Addr) (n m : Nat) (sp : Sp) (gV : List V → List V → List V) (E : XK) : List V → List V → Hp → VK → Prop := fun vs zs H Q => vs.length = n ∧ zs.length = m ∧ ∀ x dx, H x = none → H dx = none → dx ≠ x →
  sp (gV (.ref x :: vs) zs) (upd (upd H dx (.own x)) x (.ins C dx [])) (fun v H3 => v = .non ∧ Q (.ref x) H3) E
def tMakeK1 (C : Addr) (n m : Nat) (sp : Sp) (gV : List V → List V → List V) (E : XK) (t tk : TA) : TE := fun σ H Q => t σ H fun vs H1 => tk σ H1 fun zs H2 => rMkK C n m sp gV E vs zs H2 Q
theorem pe_mkK (c : MakK X.prog X.w X.K X.mg X.base CX k x C ks sp) (hr : Room j X.A) (hk : k + 1 ≤ j) (hg : Gl X x) (hx : Passes CX X E) (hkw : PK X kws tk)
    (hall : (backToKw pos (keywordEach kws X.env)).all (·.1.isSome) = true := by rfl) (hks : (backToKw pos (keywordEach kws X.env)).filterMap (·.1) = ks := by rfl) (hdb : (x == ("__debug__" : Str)) = false := by decide)
    (hpl : ((backTo pos (starEach [] X.env)).any (·.1) || (backToKw pos (keywordEach kws X.env)).any (·.1.isNone)) = false := by rfl) :
    PE X (.Call (.Name x p) [] kws pos) (tMakeK1 C 0 ks.length sp (fun vs zs => vs ++ zs) E tNil tk) := by
  obtain ⟨f, fd, ps, g, M, F, hm, b⟩ := c.ex
  exact pe_makeK0 M F (hr.mono hk) hg hm b hx hkw hall hks hdb hpl
end
section
variable {H0 H : Hp} {ft : List Addr} {l : List Cell} {t : Nat} {a p C : Addr} {o : HO} {c : Cell}
theorem Sep.drop1 (S : Sep H0 ft H (c :: l)) : Sep H0 ft H l :=
  ⟨(List.nodup_cons.mp S.nd).2, fun d h => S.rd d (List.mem_cons_of_mem _ h), S.fr, fun d h => S.wr d (List.mem_cons_of_mem _ h), fun d h => S.nw d (List.mem_cons_of_mem _ h), S.ex⟩
theorem Sep.drop2 {d : Cell} (S : Sep H0 ft H (d :: c :: l)) : Sep H0 ft H (d :: l) := by
  obtain ⟨n1, n2⟩ := List.nodup_cons.mp S.nd
  exact ⟨List.nodup_cons.mpr ⟨fun h => n1 (List.mem_cons_of_mem _ h), (List.nodup_cons.mp n2).2⟩, fun e h => S.rd e ((List.mem_cons.mp h).elim (fun z => z ▸ List.mem_cons_self) fun h => List.mem_cons_of_mem _ (List.mem_cons_of_mem _ h)), S.fr,
    fun e h => S.wr e ((List.mem_cons.mp h).elim (fun z => z ▸ List.mem_cons_self) fun h => List.mem_cons_of_mem _ (List.mem_cons_of_mem _ h)),
    fun e h => S.nw e ((List.mem_cons.mp h).elim (fun z => z ▸ List.mem_cons_self) fun h => List.mem_cons_of_mem _ (List.mem_cons_of_mem _ h)), S.ex⟩
/-- a new instance, ahead of its __init__ -/
theorem Sep.made {x dx : Addr} (S : Sep H0 ft H l) (hx : H x = none) (hd : H dx = none) (n : dx ≠ x) : Sep H0 ft (upd (upd H dx (.own x)) x (.ins C dx [])) ((2, x, .ins C dx []) :: l) :=
  ((S.new hd (.own x)).new (by rw [upd_ne n.symm]; exact hx) (.ins C dx [])).drop2
/-- a new cell that a call has laid -/
theorem Sep.got {H' : Hp} {l' : List Cell} (S : Sep H0 ft H l) (S' : Sep H0 ft H' l') (e : l'.map (·.2.1) = l.map (·.2.1)) (hn : H p = none) (hp : H' p = some o) : Sep H0 ft H' ((2, p, o) :: l') := by
  refine S'.add 2 hp (fun c hc z => ?_) (fun e => by cases e) fun _ => S.none0 hn
  have : c.2.1 ∈ l.map (·.2.1) := by rw [← e]; exact List.mem_map.mpr ⟨c, hc, rfl⟩
  obtain ⟨d, hd, ed⟩ := List.mem_map.mp this
  have := S.rd d hd
  rw [ed, z, hn] at this; cases this
theorem map_set {i : Nat} {o' : HO} (h : l[i]? = some (t, a, o)) : (l.set i (t, a, o')).map (·.2.1) = l.map (·.2.1) := by
  rw [List.map_set]
  have : (l.map (·.2.1))[i]? = some a := by rw [List.getElem?_map, h]; rfl
  obtain ⟨x, e⟩ := List.getElem?_eq_some_iff.mp this
  rw [← e]
  exact List.set_getElem_self x
end
/-- tests -/
theorem ited {p A B : Prop} [Decidable p] (h1 : p → A) (h2 : ¬ p → B) : if decide p = true then A else B := by
  by_cases h : p
  · rw [decide_eq_true h, if_pos rfl]; exact h1 h
  · rw [decide_eq_false h, if_neg Bool.false_ne_true]; exact h2 h
theorem itend {p A B : Prop} [Decidable p] (h1 : ¬ p → A) (h2 : p → B) : if (!decide p) = true then A else B := by
  by_cases h : p
  · rw [decide_eq_true h]; exact h2 h
  · rw [decide_eq_false h]; exact h1 h
theorem iteq {i j : Int} {A B : Prop} (h1 : i = j → A) (h2 : i ≠ j → B) : if decide (V.int i = V.int j) = true then A else B := ited (fun h => h1 (V.int.inj h)) fun h => h2 fun e => h (by rw [e])
theorem itne {i j : Int} {A B : Prop} (h1 : i ≠ j → A) (h2 : i = j → B) : if (!decide (V.int i = V.int j)) = true then A else B := itend (fun h => h1 fun e => h (by rw [e])) fun h => h2 (V.int.inj h)
theorem iteb {b : Bool} {A B : Prop} (h1 : b = true → A) (h2 : b = false → B) : if b = true then A else B := by
  cases b with
  | true => rw [if_pos rfl]; exact h1 rfl
  | false => rw [if_neg Bool.false_ne_true]; exact h2 rfl
theorem itnb {b : Bool} {A B : Prop} (h1 : b = false → A) (h2 : b = true → B) : if (!b) = true then A else B := by
  cases b with
  | true => exact ite2 (fun h => nomatch h) fun _ => h2 rfl
  | false => exact ite2 (fun _ => h1 rfl) fun h => absurd rfl h
theorem itnn {b : Bool} {A B : Prop} (h : if b = true then A else B) : if (!(!b)) = true then A else B := by rw [Bool.not_not]; exact h
theorem iteSome {v : Option V} {A B : Prop} (h1 : ∀ w, v = some w → A) (h2 : v = none → B) : if v.isSome = true then A else B := by
  cases v with
  | none => exact ite2 (fun h => nomatch h) fun _ => h2 rfl
  | some w => exact ite2 (fun _ => h1 w rfl) fun h => absurd rfl h
theorem iteNone {v : Option V} {A B : Prop} (h1 : v = none → A) (h2 : ∀ w, v = some w → B) : if (!v.isSome) = true then A else B := by
  cases v with
  | none => exact ite2 (fun _ => h1 rfl) fun h => absurd rfl h
  | some w => exact ite2 (fun h => nomatch h) fun _ => h2 w rfl
theorem mul_bd {a b A B : Int} (h0 : 0 ≤ a) (h1 : a < A) (h2 : 0 ≤ b) (h3 : b < B) : 0 ≤ a * b ∧ a * b < A * B :=
  ⟨Int.mul_nonneg h0 h2, Int.lt_of_le_of_lt (Int.mul_le_mul_of_nonneg_left (Int.le_of_lt h3) h0) (Int.mul_lt_mul_of_pos_right h1 (by omega))⟩
theorem pos_lt {x y : Int} (h : 0 < x) : y % x < x := Int.emod_lt_of_pos y h
theorem mod_nn {x y : Int} (h : 0 < x) : 0 ≤ y % x := Int.emod_nonneg y (by omega)
/-! ### rules that the layer lacks -/
section
variable {X : Cx}
theorem get_list : PGet X (rIxL X.K) := by
  intro pins s σ H x y v u Q I rx ry h
  obtain ⟨p, xs, i, z, rfl, rfl, hq, he, q⟩ := h
  cases rx
  obtain ⟨t, rfl⟩ := ry
  obtain ⟨its, r, pl, hz⟩ := I.list hq
  obtain ⟨j, h1, h2, h3, h4, h5⟩ := atI_get he
  obtain ⟨w, ew, rw'⟩ := r.get h2
  have hl := r.length
  have hn := line63
  have fin : EP X pins σ Q w s := ⟨z, H, I, rw', q⟩
  by_cases h0 : 0 ≤ i
  · have hj : i.toNat = j := by
      rw [seqIndex_of h0 h5] at h1
      exact Option.some.inj h1
    exact wpAny_getItem_list pl.isList h0 (by omega) (by rw [hj]; simpa using ew) fin
  · have hj : (i + (its.toArray.size : Int)).toNat = j := by
      rw [seqIndex_neg (by omega) h4] at h1
      rw [List.size_toArray, ← hl]
      exact Option.some.inj h1
    exact wpAny_getItem_list_neg pl.isList (by omega) (by rw [List.size_toArray] <;> omega) (by omega) (by rw [hj]; simpa using ew) fin
end
end G

set_option linter.all false
set_option maxRecDepth 100000
set_option maxHeartbeats 4000000
namespace G
open PySem PySem.Spec PyProof.Rows L2
def topS (i : Nat) : Stmt := PySem.Challenge.pw_farasked_k12_whole_orders_of_arrival.main.body.getD i (.Pass ⟨0, 0, 0, 0⟩)
abbrev s_law_draw : Stmt := (topS 5)
theorem sc_law_draw : FnScope ["_law_hold", "_law_many", "_law_spot", "_law_cell", "_law_mark"] ["_law_hold", "_law_many"] (defScope s_law_draw) := ⟨rfl, rfl, rfl, by decide +kernel, rfl, by decide +kernel, by decide +kernel⟩

/-- hold: how many draws, the cells -/
structure Hold (n : Int) (cs : List Int) : Prop where
  ne : cs ≠ []
  len : cs.length ≤ 63
  nn : 0 ≤ n
def spDraw : Sp := fun vs H Q _ => ∃ (p q : Addr) (n m : Int) (cs : List Int), vs = [.ref p, .int m] ∧ H p = some (.lst [.int n, .ref q]) ∧ H q = some (.lst (cs.map V.int)) ∧ p ≠ q ∧ Hold n cs ∧ n < 2 ^ 40 ∧ 0 < m ∧ m < 2 ^ 200 ∧
  ∀ (r : Int) (cs' : List Int) (H' : Hp), 0 ≤ r → r < m → Hold (n + 1) cs' → H' p = some (.lst [.int (n + 1), .ref q]) → H' q = some (.lst (cs'.map V.int)) → (∀ b o, H b = some o → b ≠ p → b ≠ q → H' b = some o) → Q (.int r) H'
theorem c_draw {H0 H : Hp} {ft : List Addr} {l : List Cell} {t t' : Nat} {p q : Addr} {n m : Int} {cs : List Int} {Q : VK} {E : XK} (S : Sep H0 ft H l) (i j : Nat) (hi : l[i]? = some (t, p, .lst [.int n, .ref q])) (hj : l[j]? = some (t', q, .lst (cs.map V.int)))
    (h : Hold n cs) (hn : n < 2 ^ 40) (hm : 0 < m) (hm2 : m < 2 ^ 200)
    (k : ∀ (r : Int) (cs' : List Int) (H' : Hp), 0 ≤ r → r < m → Hold (n + 1) cs' → Sep H0 ft H' ((l.set i (t, p, .lst [.int (n + 1), .ref q])).set j (t', q, .lst (cs'.map V.int))) → Q (.int r) H')
    (d : i ≠ j := by decide) (ht : t = 1 ∨ t = 2 := by first | exact .inl rfl | exact .inr rfl) (ht' : t' = 1 ∨ t' = 2 := by first | exact .inl rfl | exact .inr rfl) : spDraw [.ref p, .int m] H Q E :=
  ⟨p, q, n, m, cs, rfl, S.get i hi, S.get j hj, S.ne i j hi hj d, h, hn, hm, hm2, fun r cs' H' h0 h1 hh e1 e2 F => k r cs' H' h0 h1 hh (S.chg2 i j hi hj d F e1 e2 ht ht')⟩
section
variable {P : Program} {w : World} {K : PySem.W.Frag} {mg : Str → Option Value} {base : Heap}
theorem ok_draw {f : Addr} {fd : FuncData} (F : Fun K "_law_draw" "_law_draw" s_law_draw f fd) (z_len : mg "len" = none) : FnOk P w K mg base CX0 1 f fd ["_law_hold", "_law_many"] spDraw := by
  refine F.ok sc_law_draw (fun vs H Q E h => ?_) (fun cdv A outer s H vs Q E hr h => ?_)
  · obtain ⟨p, q, n, m, cs, rfl, _⟩ := h
    rfl
  · obtain ⟨p, q, n, m, cs, rfl, hp, hq, npq, ⟨hcs, hl, hn0⟩, hn, hm0, hm, k⟩ := h
    have S := Sep.of2 hp hq npq
    have hc0 : 0 < cs.length := List.length_pos_iff.mpr hcs
    refine ⟨_, pss_cons (ps_set (i := 2) sc_law_draw.nd rfl (.inl rfl) (pe_op op_mod (pe_ix (ix_listK K) (pv 0) (pe_int) (fun _ _ => rfl)) (pe_callB (cl_lenK K) (by rfl) z_len PySem.boot_len (pa_cons (pe_ix (ix_listK K) (pv 0) (pe_int) (fun _ _ => rfl)) pa_nil))))
      (pss_cons (ps_set (i := 3) sc_law_draw.nd rfl (.inl rfl) (pe_ix (ix_listK K) (pe_ix (ix_listK K) (pv 0) (pe_int) (fun _ _ => rfl)) (pv 2) (fun _ _ => rfl)))
      (pss_cons (ps_augS (pv 0) (pe_int) get_list (pe_int) ip_add set_list)
      (pss_cons (ps_if (pt_cmpR op_ge (pv 3) (pe_int) (nomark _)) (pss_cons (ps_asg (pe_op op_fdivW (pv 3) (pv 1)) (pg_sub (pe_ix (ix_listK K) (pv 0) (pe_int) (fun _ _ => rfl)) (pv 2) set_list))
      (pss_one (ps_ret (pe_op op_mod (pv 3) (pv 1))))) (pss_nil))
      (pss_cons (ps_set (i := 4) sc_law_draw.nd rfl (.inl rfl) (pe_op op_mod (pe_op op_add (pe_op op_mod (pv 3) (pe_int)) (pe_op op_mul (pe_int) (pe_ix (ix_listK K) (pv 0) (pe_int) (fun _ _ => rfl)))) (pe_int)))
      (pss_cons (ps_set (i := 4) sc_law_draw.nd rfl (.inl rfl) (pe_op op_mod (pe_op op_mul (pe_op op_mod (pe_op op_pow (pv 4) (pe_int)) (pe_int)) (pe_int)) (pe_int)))
      (pss_one (ps_ret (pe_op op_mod (pe_op op_fdivW (pe_op op_mod (pe_op op_pow (pe_op op_add (pv 4) (pe_op op_mul (pe_op op_mod (pv 3) (pe_int)) (pe_ix (ix_listK K) (pv 0) (pe_int) (fun _ _ => rfl)))) (pe_int)) (pe_int)) (pe_int)) (pv 1))))))))), ?_⟩
    rw [show start ["_law_hold", "_law_many", "_law_spot", "_law_cell", "_law_mark"] [V.ref p, V.int m] = [some (V.ref p), some (V.int m), none, none, none] from rfl]
    try dsimp only [tSeq, tAsg, gName, tOp, tUn, tCB, tCons, tNil, tCall, tRet, tRetN, tDrop, tTest, tB, tC, tNext, tAugS, tAug, sFld1, sFldAug1, tMeth1, tMake, tMakeK1, tSl, tPart, tNoPart, sDPut1, tDPop, tBM, tBM0, tPar, gSub, tChain, tNot, tNotV, iList1, iTup1, iRng1, iRng2, List.set_cons_zero, List.set_cons_succ]
    refine x_var (by exact rfl) ?_
    refine x_ixF S 0 (by exact rfl) (by exact rfl) ?_
    refine x_var (by exact rfl) ?_
    refine x_ixF S 0 (by exact rfl) (by exact rfl) ?_
    refine x_lenI S 1 (by exact rfl) ?_
    refine x_I (by first | decide | (show (0 : Int) < _; omega)) ?_
    try dsimp only [tSeq, tAsg, gName, tOp, tUn, tCB, tCons, tNil, tCall, tRet, tRetN, tDrop, tTest, tB, tC, tNext, tAugS, tAug, sFld1, sFldAug1, tMeth1, tMake, tMakeK1, tSl, tPart, tNoPart, sDPut1, tDPop, tBM, tBM0, tPar, gSub, tChain, tNot, tNotV, iList1, iTup1, iRng1, iRng2, List.set_cons_zero, List.set_cons_succ]
    refine x_var (by exact rfl) ?_
    refine x_ixF S 0 (by exact rfl) (by exact rfl) ?_
    refine x_var (by exact rfl) ?_
    refine x_ixI S 1 (by exact rfl) (by first | omega | exact Int.emod_nonneg _ (by omega)) (by first | omega | exact Int.emod_lt_of_pos _ (by omega)) (fun v1 hv1 => ?_)
    try dsimp only [tSeq, tAsg, gName, tOp, tUn, tCB, tCons, tNil, tCall, tRet, tRetN, tDrop, tTest, tB, tC, tNext, tAugS, tAug, sFld1, sFldAug1, tMeth1, tMake, tMakeK1, tSl, tPart, tNoPart, sDPut1, tDPop, tBM, tBM0, tPar, gSub, tChain, tNot, tNotV, iList1, iTup1, iRng1, iRng2, List.set_cons_zero, List.set_cons_succ]
    refine x_var (by exact rfl) ?_
    refine x_ixF S 0 (by exact rfl) (by exact rfl) ?_
    refine x_ip ?_
    refine x_setL S 0 (by exact rfl) (by exact rfl) (fun H S => ?_)
    simp only [List.set_cons_zero, List.set_cons_succ] at S
    try dsimp only [tSeq, tAsg, gName, tOp, tUn, tCB, tCons, tNil, tCall, tRet, tRetN, tDrop, tTest, tB, tC, tNext, tAugS, tAug, sFld1, sFldAug1, tMeth1, tMake, tMakeK1, tSl, tPart, tNoPart, sDPut1, tDPop, tBM, tBM0, tPar, gSub, tChain, tNot, tNotV, iList1, iTup1, iRng1, iRng2, List.set_cons_zero, List.set_cons_succ]
    refine x_if ?_
    try dsimp only [tSeq, tAsg, gName, tOp, tUn, tCB, tCons, tNil, tCall, tRet, tRetN, tDrop, tTest, tB, tC, tNext, tAugS, tAug, sFld1, sFldAug1, tMeth1, tMake, tMakeK1, tSl, tPart, tNoPart, sDPut1, tDPop, tBM, tBM0, tPar, gSub, tChain, tNot, tNotV, iList1, iTup1, iRng1, iRng2, List.set_cons_zero, List.set_cons_succ]
    refine x_var (by exact rfl) ?_
    refine x_I0 ?_
    refine ⟨_, rfl, ?_⟩
    refine ited (fun c1 => ?_) (fun c1 => ?_)
    · try dsimp only [tSeq, tAsg, gName, tOp, tUn, tCB, tCons, tNil, tCall, tRet, tRetN, tDrop, tTest, tB, tC, tNext, tAugS, tAug, sFld1, sFldAug1, tMeth1, tMake, tMakeK1, tSl, tPart, tNoPart, sDPut1, tDPop, tBM, tBM0, tPar, gSub, tChain, tNot, tNotV, iList1, iTup1, iRng1, iRng2, List.set_cons_zero, List.set_cons_succ]
      refine x_var (by exact rfl) ?_
      refine x_var (by exact rfl) ?_
      refine x_I (by first | exact ⟨by decide, by decide⟩ | exact div_ok (by omega) (by omega)) ?_
      refine x_var (by exact rfl) ?_
      refine x_ixF S 0 (by exact rfl) (by exact rfl) ?_
      refine x_var (by exact rfl) ?_
      refine x_setI S 1 (by exact rfl) (by first | omega | exact Int.emod_nonneg _ (by omega)) (by first | omega | exact Int.emod_lt_of_pos _ (by omega)) (fun H S => ?_)
      simp only [List.set_cons_zero, List.set_cons_succ] at S
      try dsimp only [tSeq, tAsg, gName, tOp, tUn, tCB, tCons, tNil, tCall, tRet, tRetN, tDrop, tTest, tB, tC, tNext, tAugS, tAug, sFld1, sFldAug1, tMeth1, tMake, tMakeK1, tSl, tPart, tNoPart, sDPut1, tDPop, tBM, tBM0, tPar, gSub, tChain, tNot, tNotV, iList1, iTup1, iRng1, iRng2, List.set_cons_zero, List.set_cons_succ]
      refine x_var (by exact rfl) ?_
      refine x_var (by exact rfl) ?_
      refine x_I (by first | decide | (show (0 : Int) < _; omega)) ?_
      refine k _ _ _ ?_ ?_ ⟨?_, ?_, ?_⟩ (S.get 0 rfl) (S.get 1 rfl) S.out2
      · exact Int.emod_nonneg _ (by omega)
      · exact Int.emod_lt_of_pos _ (by omega)
      · first | exact hcs | (intro e; have := congrArg List.length e; rw [List.length_set] at this; exact hcs (List.length_eq_zero_iff.mp this))
      · first | exact hl | (rw [List.length_set]; exact hl)
      · omega
    · try dsimp only [tSeq, tAsg, gName, tOp, tUn, tCB, tCons, tNil, tCall, tRet, tRetN, tDrop, tTest, tB, tC, tNext, tAugS, tAug, sFld1, sFldAug1, tMeth1, tMake, tMakeK1, tSl, tPart, tNoPart, sDPut1, tDPop, tBM, tBM0, tPar, gSub, tChain, tNot, tNotV, iList1, iTup1, iRng1, iRng2, List.set_cons_zero, List.set_cons_succ]
      refine x_var (by exact rfl) ?_
      refine x_I (by first | decide | (show (0 : Int) < _; omega)) ?_
      refine x_var (by exact rfl) ?_
      refine x_ixF S 0 (by exact rfl) (by exact rfl) ?_
      refine x_I (by first | exact .inr ⟨by decide, by decide⟩ | exact .inl ⟨by decide, by decide⟩ | exact .inr ⟨by omega, by omega⟩ | exact .inl ⟨by omega, by omega⟩) ?_
      refine x_I0 ?_
      refine x_I (by first | decide | (show (0 : Int) < _; omega)) ?_
      try dsimp only [tSeq, tAsg, gName, tOp, tUn, tCB, tCons, tNil, tCall, tRet, tRetN, tDrop, tTest, tB, tC, tNext, tAugS, tAug, sFld1, sFldAug1, tMeth1, tMake, tMakeK1, tSl, tPart, tNoPart, sDPut1, tDPop, tBM, tBM0, tPar, gSub, tChain, tNot, tNotV, iList1, iTup1, iRng1, iRng2, List.set_cons_zero, List.set_cons_succ]
      refine x_var (by exact rfl) ?_
      refine x_I ⟨by decide, by decide, by first | assumption | omega⟩ ?_
      refine x_I (by first | decide | (show (0 : Int) < _; omega)) ?_
      refine x_I (by first | exact .inr ⟨by decide, by decide⟩ | exact .inl ⟨by decide, by decide⟩ | exact .inr ⟨by omega, by omega⟩ | exact .inl ⟨by omega, by omega⟩) ?_
      refine x_I (by first | decide | (show (0 : Int) < _; omega)) ?_
      try dsimp only [tSeq, tAsg, gName, tOp, tUn, tCB, tCons, tNil, tCall, tRet, tRetN, tDrop, tTest, tB, tC, tNext, tAugS, tAug, sFld1, sFldAug1, tMeth1, tMake, tMakeK1, tSl, tPart, tNoPart, sDPut1, tDPop, tBM, tBM0, tPar, gSub, tChain, tNot, tNotV, iList1, iTup1, iRng1, iRng2, List.set_cons_zero, List.set_cons_succ]
      have hb := mul_bd (a := v1 % 1000003) (b := n + 1) (A := 1000003) (B := 2 ^ 41) (Int.emod_nonneg _ (by decide)) (Int.emod_lt_of_pos _ (by decide)) (by omega) (by omega)
      refine x_var (by exact rfl) ?_
      refine x_var (by exact rfl) ?_
      refine x_I (by first | decide | (show (0 : Int) < _; omega)) ?_
      refine x_var (by exact rfl) ?_
      refine x_ixF S 0 (by exact rfl) (by exact rfl) ?_
      refine x_I (by first | exact .inr ⟨by decide, by decide⟩ | exact .inl ⟨by decide, by decide⟩ | exact .inr ⟨by omega, by omega⟩ | exact .inl ⟨by omega, by omega⟩) ?_
      refine x_I0 ?_
      refine x_I ⟨by decide, by decide, by first | assumption | omega⟩ ?_
      refine x_I (by first | decide | (show (0 : Int) < _; omega)) ?_
      refine x_I (by first | exact ⟨by decide, by decide⟩ | exact div_ok (by omega) (by omega)) ?_
      refine x_var (by exact rfl) ?_
      refine x_I (by first | decide | (show (0 : Int) < _; omega)) ?_
      refine k _ _ _ ?_ ?_ ⟨?_, ?_, ?_⟩ (S.get 0 rfl) (S.get 1 rfl) S.out2
      · exact Int.emod_nonneg _ (by omega)
      · exact Int.emod_lt_of_pos _ (by omega)
      · first | exact hcs | (intro e; have := congrArg List.length e; rw [List.length_set] at this; exact hcs (List.length_eq_zero_iff.mp this))
      · first | exact hl | (rw [List.length_set]; exact hl)
      · omega
end
end G

set_option linter.all false
set_option maxRecDepth 100000
set_option maxHeartbeats 4000000
namespace G
open PySem PySem.Spec PyProof.Rows L2

def spValue : Sp := fun vs H Q _ => ∃ (p q : Addr) (n : Int) (cs : List Int), vs = [.ref p] ∧ H p = some (.lst [.int n, .ref q]) ∧ H q = some (.lst (cs.map V.int)) ∧ p ≠ q ∧ Hold n cs ∧ n < 2 ^ 39 ∧
  ∀ (r n' : Int) (cs' : List Int) (H' : Hp), n' ≤ n + 6 → Hold n' cs' → H' p = some (.lst [.int n', .ref q]) → H' q = some (.lst (cs'.map V.int)) → (∀ b o, H b = some o → b ≠ p → b ≠ q → H' b = some o) → Q (.int r) H'
theorem c_value {H0 H : Hp} {ft : List Addr} {l : List Cell} {t t' : Nat} {p q : Addr} {n : Int} {cs : List Int} {Q : VK} {E : XK} (S : Sep H0 ft H l) (i j : Nat) (hi : l[i]? = some (t, p, .lst [.int n, .ref q])) (hj : l[j]? = some (t', q, .lst (cs.map V.int)))
    (h : Hold n cs) (hn : n < 2 ^ 39) (k : ∀ (r n' : Int) (cs' : List Int) (H' : Hp), n' ≤ n + 6 → Hold n' cs' → Sep H0 ft H' ((l.set i (t, p, .lst [.int n', .ref q])).set j (t', q, .lst (cs'.map V.int))) → Q (.int r) H')
    (d : i ≠ j := by decide) (ht : t = 1 ∨ t = 2 := by first | exact .inl rfl | exact .inr rfl) (ht' : t' = 1 ∨ t' = 2 := by first | exact .inl rfl | exact .inr rfl) : spValue [.ref p] H Q E :=
  ⟨p, q, n, cs, rfl, S.get i hi, S.get j hj, S.ne i j hi hj d, h, hn, fun r n' cs' H' h1 hh e1 e2 F => k r n' cs' H' h1 hh (S.chg2 i j hi hj d F e1 e2 ht ht')⟩
def spWide : Sp := fun vs H Q _ => ∃ (p q : Addr) (n : Int) (cs : List Int), vs = [.ref p] ∧ H p = some (.lst [.int n, .ref q]) ∧ H q = some (.lst (cs.map V.int)) ∧ p ≠ q ∧ Hold n cs ∧ n < 2 ^ 39 ∧
  ∀ (r n' : Int) (cs' : List Int) (H' : Hp), 1 ≤ r → r ≤ 64 → n' ≤ n + 6 → Hold n' cs' → H' p = some (.lst [.int n', .ref q]) → H' q = some (.lst (cs'.map V.int)) → (∀ b o, H b = some o → b ≠ p → b ≠ q → H' b = some o) → Q (.int r) H'
theorem c_wide {H0 H : Hp} {ft : List Addr} {l : List Cell} {t t' : Nat} {p q : Addr} {n : Int} {cs : List Int} {Q : VK} {E : XK} (S : Sep H0 ft H l) (i j : Nat) (hi : l[i]? = some (t, p, .lst [.int n, .ref q])) (hj : l[j]? = some (t', q, .lst (cs.map V.int)))
    (h : Hold n cs) (hn : n < 2 ^ 39) (k : ∀ (r n' : Int) (cs' : List Int) (H' : Hp), 1 ≤ r → r ≤ 64 → n' ≤ n + 6 → Hold n' cs' → Sep H0 ft H' ((l.set i (t, p, .lst [.int n', .ref q])).set j (t', q, .lst (cs'.map V.int))) → Q (.int r) H')
    (d : i ≠ j := by decide) (ht : t = 1 ∨ t = 2 := by first | exact .inl rfl | exact .inr rfl) (ht' : t' = 1 ∨ t' = 2 := by first | exact .inl rfl | exact .inr rfl) : spWide [.ref p] H Q E :=
  ⟨p, q, n, cs, rfl, S.get i hi, S.get j hj, S.ne i j hi hj d, h, hn, fun r n' cs' H' h0 h9 h1 hh e1 e2 F => k r n' cs' H' h0 h9 h1 hh (S.chg2 i j hi hj d F e1 e2 ht ht')⟩
section
variable {P : Program} {w : World} {K : PySem.W.Frag} {mg : Str → Option Value} {base : Heap}
abbrev s_law_value : Stmt := (topS 6)
theorem sc_law_value : FnScope ["_law_hold", "_law_way", "_law_number", "_law_k"] ["_law_hold"] (defScope s_law_value) := ⟨rfl, rfl, rfl, by decide +kernel, rfl, by decide +kernel, by decide +kernel⟩
theorem ok_law_value {f : Addr} {fd : FuncData} (F : L2.Fun K "_law_value" "_law_value" s_law_value f fd) (cd : Cal P w K mg base CX0 1 "_law_draw" spDraw) (z_range : mg "range" = none) : FnOk P w K mg base CX0 2 f fd ["_law_hold"] spValue := by
  refine F.ok sc_law_value (fun vs H Q E h => ?_) (fun cdv A outer s H0 vs Q E hr h => ?_)
  · obtain ⟨p, q, n, cs, rfl, hp, hq, npq, hh, hn, k⟩ := h
    rfl
  · obtain ⟨p, q, n, cs, rfl, hp, hq, npq, hh, hn, k⟩ := h
    have hu := hu_of hr
    have S := Sep.of2 hp hq npq
    refine ⟨_, pss_cons (ps_set (i := 1) sc_law_value.nd rfl (.inl rfl) (pe_c cd hr (by decide) (by rfl) pass0 (pa_cons (pv 0) (pa_cons (pe_int) pa_nil))))
      (pss_cons (ps_if (pt_cmpR op_lt (pv 1) (pe_int) (nomark _)) (pss_one (ps_ret (pe_op op_mul (pe_c cd hr (by decide) (by rfl) pass0 (pa_cons (pv 0) (pa_cons (pe_int) pa_nil))) (pe_ix (ix_listK K) (pe_lst1 (pa_cons (pe_int) (pa_cons (pe_un un_neg (pe_int)) pa_nil))) (pv 1) (fun _ _ => rfl))))) (pss_nil))
      (pss_cons (ps_set (i := 2) sc_law_value.nd rfl (.inl rfl) (pe_int))
      (pss_cons (ps_for PassesOwn.never rfl (pi_range1 (by rfl) z_range (pa_cons (pe_int) pa_nil)) (pg_name (i := 3) sc_law_value.nd rfl (.inl rfl)) (pss_one (ps_set (i := 2) sc_law_value.nd rfl (.inl rfl) (pe_op op_add (pe_op op_mul (pv 2) (pe_int)) (pe_c cd hr (by decide) (by rfl) pass0 (pa_cons (pv 0) (pa_cons (pe_int) pa_nil)))))))
      (pss_one (ps_ret (pe_op op_mul (pv 2) (pe_ix (ix_listK K) (pe_lst1 (pa_cons (pe_int) (pa_cons (pe_un un_neg (pe_int)) pa_nil))) (pe_op op_sub (pv 1) (pe_int)) (fun _ _ => rfl)))))))), ?_⟩
    rw [show start ["_law_hold", "_law_way", "_law_number", "_law_k"] [V.ref p] = [some (V.ref p), none, none, none] from rfl]
    try dsimp only [tSeq, tAsg, gName, tOp, tUn, tCB, tCons, tNil, tCall, tRet, tRetN, tDrop, tTest, tB, tC, tNext, tAugS, tAug, sFld1, sFldAug1, tMeth1, tMake, tMakeK1, tSl, tPart, tNoPart, sDPut1, tDPop, tBM, tBM0, tPar, gSub, tChain, tNot, tNotV, iList1, iTup1, iRng1, iRng2, List.set_cons_zero, List.set_cons_succ]
    refine x_var (by exact rfl) ?_
    refine c_draw S 0 1 (by exact rfl) (by exact rfl) hh (by first | omega | decide | (simp only [len_insAt, List.length_map, List.length_append, List.length_cons, List.length_nil, List.length_take, List.length_drop] at *; omega)) (by first | omega | decide | (simp only [len_insAt, List.length_map, List.length_append, List.length_cons, List.length_nil, List.length_take, List.length_drop] at *; omega)) (by first | omega | decide | (simp only [len_insAt, List.length_map, List.length_append, List.length_cons, List.length_nil, List.length_take, List.length_drop] at *; omega)) (fun r1 cs1 H r1a r1b hh S => ?_)
    simp only [List.set_cons_zero, List.set_cons_succ] at S
    try dsimp only [tSeq, tAsg, gName, tOp, tUn, tCB, tCons, tNil, tCall, tRet, tRetN, tDrop, tTest, tB, tC, tNext, tAugS, tAug, sFld1, sFldAug1, tMeth1, tMake, tMakeK1, tSl, tPart, tNoPart, sDPut1, tDPop, tBM, tBM0, tPar, gSub, tChain, tNot, tNotV, iList1, iTup1, iRng1, iRng2, List.set_cons_zero, List.set_cons_succ]
    refine x_if ?_
    try dsimp only [tSeq, tAsg, gName, tOp, tUn, tCB, tCons, tNil, tCall, tRet, tRetN, tDrop, tTest, tB, tC, tNext, tAugS, tAug, sFld1, sFldAug1, tMeth1, tMake, tMakeK1, tSl, tPart, tNoPart, sDPut1, tDPop, tBM, tBM0, tPar, gSub, tChain, tNot, tNotV, iList1, iTup1, iRng1, iRng2, List.set_cons_zero, List.set_cons_succ]
    refine x_var (by exact rfl) ?_
    refine x_I0 ?_
    refine ⟨_, rfl, ?_⟩
    refine ited (fun c1 => ?_) (fun c1 => ?_)
    · try dsimp only [tSeq, tAsg, gName, tOp, tUn, tCB, tCons, tNil, tCall, tRet, tRetN, tDrop, tTest, tB, tC, tNext, tAugS, tAug, sFld1, sFldAug1, tMeth1, tMake, tMakeK1, tSl, tPart, tNoPart, sDPut1, tDPop, tBM, tBM0, tPar, gSub, tChain, tNot, tNotV, iList1, iTup1, iRng1, iRng2, List.set_cons_zero, List.set_cons_succ]
      refine x_var (by exact rfl) ?_
      refine c_draw S 0 1 (by exact rfl) (by exact rfl) hh (by first | omega | decide | (simp only [len_insAt, List.length_map, List.length_append, List.length_cons, List.length_nil, List.length_take, List.length_drop] at *; omega)) (by first | omega | decide | (simp only [len_insAt, List.length_map, List.length_append, List.length_cons, List.length_nil, List.length_take, List.length_drop] at *; omega)) (by first | omega | decide | (simp only [len_insAt, List.length_map, List.length_append, List.length_cons, List.length_nil, List.length_take, List.length_drop] at *; omega)) (fun r2 cs2 H r2a r2b hh S => ?_)
      simp only [List.set_cons_zero, List.set_cons_succ] at S
      refine x_U ?_
      refine x_lst S (by exact Nat.le_of_ble_eq_true rfl) (fun L1 H S => ?_)
      refine x_var (by exact rfl) ?_
      refine x_ixI (cs := [1, -1]) S 0 (by exact rfl) (by omega) (by first | (show (_ : Int) < 2; omega) | omega) (fun v1 hv1 => ?_)
      have hv1 := List.mem_of_getElem? hv1
      simp only [List.mem_cons, List.not_mem_nil, or_false] at hv1
      refine x_I (by first | exact .inr ⟨by decide, by decide⟩ | exact .inl ⟨by decide, by decide⟩ | exact .inr ⟨by omega, by omega⟩ | exact .inl ⟨by omega, by omega⟩) ?_
      exact k _ _ _ _ (by omega) hh (S.get 1 rfl) (S.get 2 rfl) S.out2
    · try dsimp only [tSeq, tAsg, gName, tOp, tUn, tCB, tCons, tNil, tCall, tRet, tRetN, tDrop, tTest, tB, tC, tNext, tAugS, tAug, sFld1, sFldAug1, tMeth1, tMake, tMakeK1, tSl, tPart, tNoPart, sDPut1, tDPop, tBM, tBM0, tPar, gSub, tChain, tNot, tNotV, iList1, iTup1, iRng1, iRng2, List.set_cons_zero, List.set_cons_succ]
      try dsimp only [tSeq, tAsg, gName, tOp, tUn, tCB, tCons, tNil, tCall, tRet, tRetN, tDrop, tTest, tB, tC, tNext, tAugS, tAug, sFld1, sFldAug1, tMeth1, tMake, tMakeK1, tSl, tPart, tNoPart, sDPut1, tDPop, tBM, tBM0, tPar, gSub, tChain, tNot, tNotV, iList1, iTup1, iRng1, iRng2, List.set_cons_zero, List.set_cons_succ]
      refine x_for ?_
      try dsimp only [tOp, tUn, tCB, tCons, tNil, tCall, tC, tMeth1, tMake, tMakeK1, tSl, tPart, tNoPart, tDPop, tChain, tNotV, iList1, iTup1, iRng1, iRng2]
      refine ⟨_, rfl, by omega, by omega, ?_⟩
      refine forR (fun i σ H1 => ∃ (num n1 : Int) (cs1 : List Int) (o : Option V), σ = [some (.ref p), some (.int r1), some (.int num), o] ∧ n1 ≤ n + 1 + i ∧ Hold n1 cs1 ∧ Sep H0 [p, q] H1 [(1, p, .lst [.int n1, .ref q]), (1, q, .lst (cs1.map V.int))]) ?_ ?_ ?_
      · exact ⟨0, _, _, _, rfl, by omega, hh, S⟩
      · rintro i σ H hi ⟨num, n1, cs1, o, rfl, hn1, hh, S⟩
        try dsimp only [tSeq, tAsg, gName, tOp, tUn, tCB, tCons, tNil, tCall, tRet, tRetN, tDrop, tTest, tB, tC, tNext, tAugS, tAug, sFld1, sFldAug1, tMeth1, tMake, tMakeK1, tSl, tPart, tNoPart, sDPut1, tDPop, tBM, tBM0, tPar, gSub, tChain, tNot, tNotV, iList1, iTup1, iRng1, iRng2, List.set_cons_zero, List.set_cons_succ]
        try dsimp only [tSeq, tAsg, gName, tOp, tUn, tCB, tCons, tNil, tCall, tRet, tRetN, tDrop, tTest, tB, tC, tNext, tAugS, tAug, sFld1, sFldAug1, tMeth1, tMake, tMakeK1, tSl, tPart, tNoPart, sDPut1, tDPop, tBM, tBM0, tPar, gSub, tChain, tNot, tNotV, iList1, iTup1, iRng1, iRng2, List.set_cons_zero, List.set_cons_succ]
        refine x_var (by exact rfl) ?_
        refine x_I (by first | exact .inr ⟨by decide, by decide⟩ | exact .inl ⟨by decide, by decide⟩ | exact .inr ⟨by omega, by omega⟩ | exact .inl ⟨by omega, by omega⟩) ?_
        refine x_var (by exact rfl) ?_
        refine c_draw S 0 1 (by exact rfl) (by exact rfl) hh (by first | omega | decide | (simp only [len_insAt, List.length_map, List.length_append, List.length_cons, List.length_nil, List.length_take, List.length_drop] at *; omega)) (by first | omega | decide | (simp only [len_insAt, List.length_map, List.length_append, List.length_cons, List.length_nil, List.length_take, List.length_drop] at *; omega)) (by first | omega | decide | (simp only [len_insAt, List.length_map, List.length_append, List.length_cons, List.length_nil, List.length_take, List.length_drop] at *; omega)) (fun r3 cs3 H r3a r3b hh S => ?_)
        simp only [List.set_cons_zero, List.set_cons_succ] at S
        refine x_I0 ?_
        exact ⟨_, _, _, _, rfl, by omega, hh, S⟩
      · rintro σ H ⟨num, n1, cs1, o, rfl, hn1, hh, S⟩
        try dsimp only [tSeq, tAsg, gName, tOp, tUn, tCB, tCons, tNil, tCall, tRet, tRetN, tDrop, tTest, tB, tC, tNext, tAugS, tAug, sFld1, sFldAug1, tMeth1, tMake, tMakeK1, tSl, tPart, tNoPart, sDPut1, tDPop, tBM, tBM0, tPar, gSub, tChain, tNot, tNotV, iList1, iTup1, iRng1, iRng2, List.set_cons_zero, List.set_cons_succ]
        try dsimp only [tSeq, tAsg, gName, tOp, tUn, tCB, tCons, tNil, tCall, tRet, tRetN, tDrop, tTest, tB, tC, tNext, tAugS, tAug, sFld1, sFldAug1, tMeth1, tMake, tMakeK1, tSl, tPart, tNoPart, sDPut1, tDPop, tBM, tBM0, tPar, gSub, tChain, tNot, tNotV, iList1, iTup1, iRng1, iRng2, List.set_cons_zero, List.set_cons_succ]
        refine x_var (by exact rfl) ?_
        refine x_U ?_
        refine x_lst S (by exact Nat.le_of_ble_eq_true rfl) (fun L2 H S => ?_)
        refine x_var (by exact rfl) ?_
        refine x_I0 ?_
        refine x_ixI (cs := [1, -1]) S 0 (by exact rfl) (by omega) (by first | (show (_ : Int) < 2; omega) | omega) (fun v2 hv2 => ?_)
        have hv2 := List.mem_of_getElem? hv2
        simp only [List.mem_cons, List.not_mem_nil, or_false] at hv2
        refine x_I (by first | exact .inr ⟨by decide, by decide⟩ | exact .inl ⟨by decide, by decide⟩ | exact .inr ⟨by omega, by omega⟩ | exact .inl ⟨by omega, by omega⟩) ?_
        exact k _ _ _ _ (by omega) hh (S.get 1 rfl) (S.get 2 rfl) S.out2
abbrev s_law_wide : Stmt := (topS 7)
theorem sc_law_wide : FnScope ["_law_hold"] ["_law_hold"] (defScope s_law_wide) := ⟨rfl, rfl, rfl, by decide +kernel, rfl, by decide +kernel, by decide +kernel⟩
theorem ok_law_wide {f : Addr} {fd : FuncData} (F : L2.Fun K "_law_wide" "_law_wide" s_law_wide f fd) (cd : Cal P w K mg base CX0 1 "_law_draw" spDraw) : FnOk P w K mg base CX0 2 f fd ["_law_hold"] spWide := by
  refine F.ok sc_law_wide (fun vs H Q E h => ?_) (fun cdv A outer s H0 vs Q E hr h => ?_)
  · obtain ⟨p, q, n, cs, rfl, hp, hq, npq, hh, hn, k⟩ := h
    rfl
  · obtain ⟨p, q, n, cs, rfl, hp, hq, npq, hh, hn, k⟩ := h
    have hu := hu_of hr
    have S := Sep.of2 hp hq npq
    refine ⟨_, pss_one (ps_ret (pe_ix (ix_listK K) (pe_lst1 (pa_cons (pe_int) (pa_cons (pe_int) (pa_cons (pe_int) (pa_cons (pe_int) (pa_cons (pe_op op_add (pe_int) (pe_c cd hr (by decide) (by rfl) pass0 (pa_cons (pv 0) (pa_cons (pe_int) pa_nil)))) (pa_cons (pe_op op_add (pe_int) (pe_c cd hr (by decide) (by rfl) pass0 (pa_cons (pv 0) (pa_cons (pe_int) pa_nil)))) pa_nil))))))) (pe_c cd hr (by decide) (by rfl) pass0 (pa_cons (pv 0) (pa_cons (pe_int) pa_nil))) (fun _ _ => rfl))), ?_⟩
    rw [show start ["_law_hold"] [V.ref p] = [some (V.ref p)] from rfl]
    try dsimp only [tSeq, tAsg, gName, tOp, tUn, tCB, tCons, tNil, tCall, tRet, tRetN, tDrop, tTest, tB, tC, tNext, tAugS, tAug, sFld1, sFldAug1, tMeth1, tMake, tMakeK1, tSl, tPart, tNoPart, sDPut1, tDPop, tBM, tBM0, tPar, gSub, tChain, tNot, tNotV, iList1, iTup1, iRng1, iRng2, List.set_cons_zero, List.set_cons_succ]
    refine x_var (by exact rfl) ?_
    refine c_draw S 0 1 (by exact rfl) (by exact rfl) hh (by first | omega | decide | (simp only [len_insAt, List.length_map, List.length_append, List.length_cons, List.length_nil, List.length_take, List.length_drop] at *; omega)) (by first | omega | decide | (simp only [len_insAt, List.length_map, List.length_append, List.length_cons, List.length_nil, List.length_take, List.length_drop] at *; omega)) (by first | omega | decide | (simp only [len_insAt, List.length_map, List.length_append, List.length_cons, List.length_nil, List.length_take, List.length_drop] at *; omega)) (fun r1 cs1 H r1a r1b hh S => ?_)
    simp only [List.set_cons_zero, List.set_cons_succ] at S
    refine x_I0 ?_
    refine x_var (by exact rfl) ?_
    refine c_draw S 0 1 (by exact rfl) (by exact rfl) hh (by first | omega | decide | (simp only [len_insAt, List.length_map, List.length_append, List.length_cons, List.length_nil, List.length_take, List.length_drop] at *; omega)) (by first | omega | decide | (simp only [len_insAt, List.length_map, List.length_append, List.length_cons, List.length_nil, List.length_take, List.length_drop] at *; omega)) (by first | omega | decide | (simp only [len_insAt, List.length_map, List.length_append, List.length_cons, List.length_nil, List.length_take, List.length_drop] at *; omega)) (fun r2 cs2 H r2a r2b hh S => ?_)
    simp only [List.set_cons_zero, List.set_cons_succ] at S
    refine x_I0 ?_
    refine x_lst S (by exact Nat.le_of_ble_eq_true rfl) (fun L1 H S => ?_)
    refine x_var (by exact rfl) ?_
    refine c_draw S 1 2 (by exact rfl) (by exact rfl) hh (by first | omega | decide | (simp only [len_insAt, List.length_map, List.length_append, List.length_cons, List.length_nil, List.length_take, List.length_drop] at *; omega)) (by first | omega | decide | (simp only [len_insAt, List.length_map, List.length_append, List.length_cons, List.length_nil, List.length_take, List.length_drop] at *; omega)) (by first | omega | decide | (simp only [len_insAt, List.length_map, List.length_append, List.length_cons, List.length_nil, List.length_take, List.length_drop] at *; omega)) (fun r3 cs3 H r3a r3b hh S => ?_)
    simp only [List.set_cons_zero, List.set_cons_succ] at S
    refine x_ixI (cs := [4, 1, 2, 64, 1 + r1, 1 + r2]) S 0 (by exact rfl) (by omega) (by first | (show (_ : Int) < 6; omega) | omega) (fun v1 hv1 => ?_)
    have hv1 := List.mem_of_getElem? hv1
    simp only [List.mem_cons, List.not_mem_nil, or_false] at hv1
    exact k _ _ _ _ (by omega) (by omega) (by omega) hh (S.get 1 rfl) (S.get 2 rfl) S.out2
end
end G

set_option linter.all false
set_option maxRecDepth 100000
set_option maxHeartbeats 4000000
namespace G
open PySem PySem.Spec PyProof.Rows L2
/-! ### takers -/
def F_Taker (w t : Int) (d : Addr) (e : V) : List (Str × V) := [(("wide" : Str), V.int w), (("taken" : Str), V.int t), (("kept" : Str), V.ref d), (("end" : Str), e)]
theorem lk_Taker_wide {w t : Int} {d : Addr} {e : V} : (F_Taker w t d e).lookup ("wide" : Str) = some (V.int w) := by kernel_rfl
theorem lk_Taker_taken {w t : Int} {d : Addr} {e : V} : (F_Taker w t d e).lookup ("taken" : Str) = some (V.int t) := by kernel_rfl
theorem lk_Taker_kept {w t : Int} {d : Addr} {e : V} : (F_Taker w t d e).lookup ("kept" : Str) = some (V.ref d) := by kernel_rfl
theorem lk_Taker_end {w t : Int} {d : Addr} {e : V} : (F_Taker w t d e).lookup ("end" : Str) = some (e) := by kernel_rfl
theorem nk_Taker_came {w t : Int} {d : Addr} {e : V} : (F_Taker w t d e).lookup ("came" : Str) = none := by kernel_rfl
theorem nk_Taker_ends {w t : Int} {d : Addr} {e : V} : (F_Taker w t d e).lookup ("ends" : Str) = none := by kernel_rfl
theorem nk_Taker_has_next {w t : Int} {d : Addr} {e : V} : (F_Taker w t d e).lookup ("has_next" : Str) = none := by kernel_rfl
theorem nk_Taker_take {w t : Int} {d : Addr} {e : V} : (F_Taker w t d e).lookup ("take" : Str) = none := by kernel_rfl
theorem nk_Taker_told {w t : Int} {d : Addr} {e : V} : (F_Taker w t d e).lookup ("told" : Str) = none := by kernel_rfl
theorem nk_Taker_has_all {w t : Int} {d : Addr} {e : V} : (F_Taker w t d e).lookup ("has_all" : Str) = none := by kernel_rfl
theorem nk_Taker_is_ended {w t : Int} {d : Addr} {e : V} : (F_Taker w t d e).lookup ("is_ended" : Str) = none := by kernel_rfl
theorem pt_Taker_taken {w t : Int} {d : Addr} {e : V} {z : Int} : putF ("taken" : Str) (.int z) (F_Taker w t d e) = F_Taker w z d e := by kernel_rfl
theorem pt_Taker_end {w t : Int} {d : Addr} {e : V} {z : V} : putF ("end" : Str) z (F_Taker w t d e) = F_Taker w t d z := by kernel_rfl
theorem pi_Taker_1 {z : V} : putF ("wide" : Str) z [] = [(("wide" : Str), z)] := by kernel_rfl
theorem pi_Taker_2 {a z : V} : putF ("taken" : Str) z [(("wide" : Str), a)] = [(("wide" : Str), a), (("taken" : Str), z)] := by kernel_rfl
theorem pi_Taker_3 {a b z : V} : putF ("kept" : Str) z [(("wide" : Str), a), (("taken" : Str), b)] = [(("wide" : Str), a), (("taken" : Str), b), (("kept" : Str), z)] := by kernel_rfl
theorem pi_Taker_4 {w t : Int} {d : Addr} {z : V} : putF ("end" : Str) z [(("wide" : Str), .int w), (("taken" : Str), .int t), (("kept" : Str), .ref d)] = F_Taker w t d z := by kernel_rfl
structure TkCls (K : PySem.W.Frag) (C : Addr) : Prop where
  c_Taker : Cls K C
  na_Taker_wide : NoAttr K C "wide"
  na_Taker_taken : NoAttr K C "taken"
  na_Taker_kept : NoAttr K C "kept"
  na_Taker_end : NoAttr K C "end"
def spTkInit (C : Addr) : Sp := fun vs H Q _ => ∃ (p dx : Addr) (w : Int), vs = [.ref p, .int w] ∧ H p = some (.ins C dx []) ∧ ∀ (d : Addr) (H' : Hp), H d = none → H' p = some (.ins C dx (F_Taker w 0 d .non)) → H' d = some (.dK []) → (∀ b o, H b = some o → b ≠ p → H' b = some o) → Q .non H'
theorem c_mkTaker {C : Addr} {w : Int} {H0 H : Hp} {ft : List Addr} {l : List Cell} {Q : VK} {E : XK} (S : Sep H0 ft H l) (k : ∀ x dx d H', Sep H0 ft H' ((2, d, .dK []) :: (2, x, .ins C dx (F_Taker w 0 d .non)) :: l) → Q (.ref x) H') :
    rMkK C 0 1 (spTkInit C) (fun vs zs => vs ++ zs) E [] [V.int w] H Q := by
  refine ⟨rfl, rfl, fun x dx hx hd n => ⟨x, dx, w, rfl, upd_same, fun d H' nd e1 e2 F => ⟨rfl, ?_⟩⟩⟩
  have S1 := S.made (C := C) hx hd n
  have S2 := S1.chg1 0 rfl F e1
  exact k x dx d H' (S1.got S2 rfl nd e2)
/-- what comes: kept where there is room for it and nothing is there -/
def camK (t w : Int) (kvs : List (Key × V)) (i : Int) (v : V) : List (Key × V) := if (t ≤ i ∧ i < t + w) ∧ valV kvs (.inl i : Key) = none then putK kvs (.inl i) v else kvs
def spCame (C : Addr) : Sp := fun vs H Q _ => ∃ (p dx d : Addr) (w t i : Int) (e v : V) (kvs : List (Key × V)), vs = [.ref p, .int i, v] ∧ H p = some (.ins C dx (F_Taker w t d e)) ∧ H d = some (.dK kvs) ∧ kvs.length < 100000 ∧
  ∀ H' : Hp, H' d = some (.dK (camK t w kvs i v)) → (∀ b o, H b = some o → b ≠ d → H' b = some o) → Q .non H'
theorem c_came {C : Addr} {H0 H : Hp} {ft : List Addr} {l : List Cell} {t1 t2 : Nat} {p dx d : Addr} {w t i : Int} {e v : V} {kvs : List (Key × V)} {Q : VK} {E : XK} (S : Sep H0 ft H l) (n m : Nat) (h : l[n]? = some (t1, p, .ins C dx (F_Taker w t d e))) (h' : l[m]? = some (t2, d, .dK kvs)) (hl : kvs.length < 100000)
    (k : ∀ H', Sep H0 ft H' (l.set m (t2, d, .dK (camK t w kvs i v))) → Q .non H') (ht : t2 = 1 ∨ t2 = 2 := by first | exact .inl rfl | exact .inr rfl) : spCame C [.ref p, .int i, v] H Q E :=
  ⟨p, dx, d, w, t, i, e, v, kvs, rfl, S.get n h, S.get m h', hl, fun H' e1 F => k H' (S.chg1 m h' F e1 ht)⟩
def spTake (C : Addr) : Sp := fun vs H Q _ => ∃ (p dx d : Addr) (w t : Int) (e : V) (kvs : List (Key × V)), vs = [.ref p] ∧ H p = some (.ins C dx (F_Taker w t d e)) ∧ H d = some (.dK kvs) ∧
  (valV kvs (.inl t : Key) = none → ∀ H' : Hp, (∀ b o, H b = some o → H' b = some o) → Q .non H') ∧
  ∀ v, valV kvs (.inl t : Key) = some v → ∀ H' : Hp, H' p = some (.ins C dx (F_Taker w (t + 1) d e)) → H' d = some (.dK (dropK kvs (.inl t))) → (∀ b o, H b = some o → b ≠ p → b ≠ d → H' b = some o) → Q v H'
theorem c_take {C : Addr} {H0 H : Hp} {ft : List Addr} {l : List Cell} {t1 t2 : Nat} {p dx d : Addr} {w t : Int} {e : V} {kvs : List (Key × V)} {Q : VK} {E : XK} (S : Sep H0 ft H l) (n m : Nat) (h : l[n]? = some (t1, p, .ins C dx (F_Taker w t d e))) (h' : l[m]? = some (t2, d, .dK kvs))
    (k0 : valV kvs (.inl t : Key) = none → ∀ H', Sep H0 ft H' l → Q .non H') (k1 : ∀ v, valV kvs (.inl t : Key) = some v → ∀ H', Sep H0 ft H' ((l.set n (t1, p, .ins C dx (F_Taker w (t + 1) d e))).set m (t2, d, .dK (dropK kvs (.inl t)))) → Q v H') (nm : n ≠ m := by decide)
    (ht1 : t1 = 1 ∨ t1 = 2 := by first | exact .inl rfl | exact .inr rfl) (ht : t2 = 1 ∨ t2 = 2 := by first | exact .inl rfl | exact .inr rfl) : spTake C [.ref p] H Q E :=
  ⟨p, dx, d, w, t, e, kvs, rfl, S.get n h, S.get m h', fun hn H' F => k0 hn H' (S.stay F), fun v hv H' e1 e2 F => k1 v hv H' (S.chg2 n m h h' nm F e1 e2 ht1 ht)⟩
/-- how far the keys go from t on without a gap -/
structure Reach (kvs : List (Key × V)) (t g : Int) : Prop where
  le : t ≤ g
  all : ∀ i, t ≤ i → i < g → valV kvs (.inl i : Key) ≠ none
  no : valV kvs (.inl g : Key) = none
def above (kvs : List (Key × V)) (g : Int) : Nat := kvs.countP fun kv => match kv.1 with | .inl i => decide (g ≤ i) | .inr _ => false
theorem above_lt {g : Int} {v : V} : ∀ {kvs : List (Key × V)}, valV kvs (.inl g : Key) = some v → above kvs (g + 1) < above kvs g
  | [], h => by cases h
  | (k, x) :: r, h => by
    have mono : above r (g + 1) ≤ above r g := List.countP_mono_left fun kv _ hk => by
      revert hk
      cases kv.1 with
      | inl i => intro hk; exact decide_eq_true (by have := of_decide_eq_true hk; omega)
      | inr _ => intro hk; exact hk
    by_cases e : k = .inl g
    · subst e
      unfold above at mono ⊢
      rw [List.countP_cons, List.countP_cons, if_neg (by simp; omega), if_pos (by simp)]
      omega
    · rw [valV_neg (p := (k, x)) e] at h
      have ih := above_lt h
      unfold above at ih mono ⊢
      rw [List.countP_cons, List.countP_cons]
      have : (if (match (k, x).1 with | .inl i => decide (g + 1 ≤ i) | .inr _ => false) = true then 1 else 0) ≤ (if (match (k, x).1 with | .inl i => decide (g ≤ i) | .inr _ => false) = true then 1 else 0) := by
        cases k with
        | inl i =>
          show (if decide (g + 1 ≤ i) = true then 1 else 0) ≤ (if decide (g ≤ i) = true then 1 else 0)
          by_cases a : g + 1 ≤ i
          · rw [decide_eq_true a, decide_eq_true (show g ≤ i by omega)] <;> exact Nat.le_refl _
          · rw [decide_eq_false a]; exact Nat.zero_le _
        | inr _ => exact Nat.le_refl _
      omega
def spTold (C : Addr) : Sp := fun vs H Q _ => ∃ (p dx d : Addr) (w t : Int) (e : V) (kvs : List (Key × V)), vs = [.ref p] ∧ H p = some (.ins C dx (F_Taker w t d e)) ∧ H d = some (.dK kvs) ∧
  ∀ (g : Int) (q : Addr) (H' : Hp), Reach kvs t g → H q = none → H' q = some (.tup [.int g, .int (t + w)]) → (∀ b o, H b = some o → H' b = some o) → Q (.ref q) H'
theorem c_told {C : Addr} {H0 H : Hp} {ft : List Addr} {l : List Cell} {t1 t2 : Nat} {p dx d : Addr} {w t : Int} {e : V} {kvs : List (Key × V)} {Q : VK} {E : XK} (S : Sep H0 ft H l) (n m : Nat) (h : l[n]? = some (t1, p, .ins C dx (F_Taker w t d e))) (h' : l[m]? = some (t2, d, .dK kvs))
    (k : ∀ g q H', Reach kvs t g → Sep H0 ft H' ((2, q, .tup [.int g, .int (t + w)]) :: l) → Q (.ref q) H') : spTold C [.ref p] H Q E :=
  ⟨p, dx, d, w, t, e, kvs, rfl, S.get n h, S.get m h', fun g q H' r nq eq F => k g q H' r (S.got (S.stay F) rfl nq eq)⟩
section
variable {P : Program} {w : World} {K : PySem.W.Frag} {mg : Str → Option Value} {base : Heap}
abbrev s_Taker__init : Stmt := (inClass (topS 3) 0)
theorem sc_Taker__init : FnScope ["self", "window"] ["self", "window"] (defScope s_Taker__init) := ⟨rfl, rfl, rfl, by decide +kernel, rfl, by decide +kernel, by decide +kernel⟩
theorem ok_Taker__init {f : Addr} {fd : FuncData} {C : Addr} (F : L2.Fun K "__init__" "Taker.__init__" s_Taker__init f fd) (T : TkCls K C) : FnOk P w K mg base CX0 1 f fd ["self", "window"] (spTkInit C) := by
  refine F.ok sc_Taker__init (fun vs H Q E h => ?_) (fun cdv A outer s H0 vs Q E hr h => ?_)
  · obtain ⟨p, dx, w, rfl, hp, k⟩ := h
    rfl
  · obtain ⟨p, dx, w, rfl, hp, k⟩ := h
    have hu := hu_of hr
    have S := Sep.of1 hp
    refine ⟨_, pss_cons (ps_fld1 (pv 0) (pv 1) rfl)
      (pss_cons (ps_fld1 (pv 0) (pe_int) rfl)
      (pss_cons (ps_fld1 (pv 0) (pe_dnewK) rfl)
      (pss_one (ps_fld1 (pv 0) (pe_non) rfl)))), ?_⟩
    rw [show start ["self", "window"] [V.ref p, V.int w] = [some (V.ref p), some (V.int w)] from rfl]
    try dsimp only [tSeq, tAsg, gName, tOp, tUn, tCB, tCons, tNil, tCall, tRet, tRetN, tDrop, tTest, tB, tC, tNext, tAugS, tAug, sFld1, sFldAug1, tMeth1, tMake, tMakeK1, tSl, tPart, tNoPart, sDPut1, tDPop, tBM, tBM0, tPar, gSub, tChain, tNot, tNotV, iList1, iTup1, iRng1, iRng2, List.set_cons_zero, List.set_cons_succ]
    refine x_var (by exact rfl) ?_
    refine x_var (by exact rfl) ?_
    refine x_sfld S 0 (by exact rfl) T.c_Taker T.na_Taker_wide pi_Taker_1 (by exact Nat.le_of_ble_eq_true rfl) (fun H S => ?_)
    simp only [List.set_cons_zero, List.set_cons_succ] at S
    try dsimp only [tSeq, tAsg, gName, tOp, tUn, tCB, tCons, tNil, tCall, tRet, tRetN, tDrop, tTest, tB, tC, tNext, tAugS, tAug, sFld1, sFldAug1, tMeth1, tMake, tMakeK1, tSl, tPart, tNoPart, sDPut1, tDPop, tBM, tBM0, tPar, gSub, tChain, tNot, tNotV, iList1, iTup1, iRng1, iRng2, List.set_cons_zero, List.set_cons_succ]
    refine x_var (by exact rfl) ?_
    refine x_sfld S 0 (by exact rfl) T.c_Taker T.na_Taker_taken pi_Taker_2 (by exact Nat.le_of_ble_eq_true rfl) (fun H S => ?_)
    simp only [List.set_cons_zero, List.set_cons_succ] at S
    try dsimp only [tSeq, tAsg, gName, tOp, tUn, tCB, tCons, tNil, tCall, tRet, tRetN, tDrop, tTest, tB, tC, tNext, tAugS, tAug, sFld1, sFldAug1, tMeth1, tMake, tMakeK1, tSl, tPart, tNoPart, sDPut1, tDPop, tBM, tBM0, tPar, gSub, tChain, tNot, tNotV, iList1, iTup1, iRng1, iRng2, List.set_cons_zero, List.set_cons_succ]
    refine x_dnew S (fun D1 H S => ?_)
    refine x_var (by exact rfl) ?_
    refine x_sfld S 1 (by exact rfl) T.c_Taker T.na_Taker_kept pi_Taker_3 (by exact Nat.le_of_ble_eq_true rfl) (fun H S => ?_)
    simp only [List.set_cons_zero, List.set_cons_succ] at S
    try dsimp only [tSeq, tAsg, gName, tOp, tUn, tCB, tCons, tNil, tCall, tRet, tRetN, tDrop, tTest, tB, tC, tNext, tAugS, tAug, sFld1, sFldAug1, tMeth1, tMake, tMakeK1, tSl, tPart, tNoPart, sDPut1, tDPop, tBM, tBM0, tPar, gSub, tChain, tNot, tNotV, iList1, iTup1, iRng1, iRng2, List.set_cons_zero, List.set_cons_succ]
    refine x_var (by exact rfl) ?_
    refine x_sfld S 1 (by exact rfl) T.c_Taker T.na_Taker_end pi_Taker_4 (by exact Nat.le_of_ble_eq_true rfl) (fun H S => ?_)
    simp only [List.set_cons_zero, List.set_cons_succ] at S
    exact k _ _ (S.new_none 0 rfl) (S.get 1 rfl) (S.get 0 rfl) S.out1
abbrev s_Taker_came : Stmt := (inClass (topS 3) 1)
theorem sc_Taker_came : FnScope ["self", "place", "value"] ["self", "place", "value"] (defScope s_Taker_came) := ⟨rfl, rfl, rfl, by decide +kernel, rfl, by decide +kernel, by decide +kernel⟩
theorem ok_Taker_came {f : Addr} {fd : FuncData} {C : Addr} (F : L2.Fun K "came" "Taker.came" s_Taker_came f fd) (T : TkCls K C) : FnOk P w K mg base CX0 1 f fd ["self", "place", "value"] (spCame C) := by
  refine F.ok sc_Taker_came (fun vs H Q E h => ?_) (fun cdv A outer s H0 vs Q E hr h => ?_)
  · obtain ⟨p, dx, d, w, t, i, e, v, kvs, rfl, hp, hd, hl, k⟩ := h
    rfl
  · obtain ⟨p, dx, d, w, t, i, e, v, kvs, rfl, hp, hd, hl, k⟩ := h
    have hu := hu_of hr
    have S : Sep H0 [d] H0 [(0, p, .ins C dx (F_Taker w t d e)), (1, d, .dK kvs)] := (Sep.of1 hd).add 0 hp (fun c hc z => by rw [List.mem_singleton.mp hc] at z; exact ne_of hd hp (by intro z; cases z) z) (fun z => by cases z) (fun z => by cases z)
    refine ⟨_, pss_one (ps_if ((pw_and (pt_chain op_le op_lt (pe_fldK K (pv 0)) (pv 1) (pe_op op_add (pe_fldK K (pv 0)) (pe_fldK K (pv 0)))) (pw_and1 (pt_cmp (pc_dni1 hu (pv 1) (pe_fldK K (pv 0)))))).pt) (pss_one (ps_dput1 hu (pe_fldK K (pv 0)) (pv 1) (pv 2) rfl)) (pss_nil)), ?_⟩
    rw [show start ["self", "place", "value"] [V.ref p, V.int i, v] = [some (V.ref p), some (V.int i), some (v)] from rfl]
    try dsimp only [tSeq, tAsg, gName, tOp, tUn, tCB, tCons, tNil, tCall, tRet, tRetN, tDrop, tTest, tB, tC, tNext, tAugS, tAug, sFld1, sFldAug1, tMeth1, tMake, tMakeK1, tSl, tPart, tNoPart, sDPut1, tDPop, tBM, tBM0, tPar, gSub, tChain, tNot, tNotV, iList1, iTup1, iRng1, iRng2, List.set_cons_zero, List.set_cons_succ]
    refine x_if ?_
    try dsimp only [tSeq, tAsg, gName, tOp, tUn, tCB, tCons, tNil, tCall, tRet, tRetN, tDrop, tTest, tB, tC, tNext, tAugS, tAug, sFld1, sFldAug1, tMeth1, tMake, tMakeK1, tSl, tPart, tNoPart, sDPut1, tDPop, tBM, tBM0, tPar, gSub, tChain, tNot, tNotV, iList1, iTup1, iRng1, iRng2, List.set_cons_zero, List.set_cons_succ]
    refine x_and ?_
    try dsimp only [tSeq, tAsg, gName, tOp, tUn, tCB, tCons, tNil, tCall, tRet, tRetN, tDrop, tTest, tB, tC, tNext, tAugS, tAug, sFld1, sFldAug1, tMeth1, tMake, tMakeK1, tSl, tPart, tNoPart, sDPut1, tDPop, tBM, tBM0, tPar, gSub, tChain, tNot, tNotV, iList1, iTup1, iRng1, iRng2, List.set_cons_zero, List.set_cons_succ]
    refine x_var (by exact rfl) ?_
    refine x_fld S 0 (by exact rfl) T.c_Taker T.na_Taker_taken lk_Taker_taken ?_
    refine x_var (by exact rfl) ?_
    refine x_I0 ?_
    refine ⟨_, rfl, ?_⟩
    refine ited (fun c1 => ?_) (fun c1 => ?_)
    · refine x_var (by exact rfl) ?_
      refine x_fld S 0 (by exact rfl) T.c_Taker T.na_Taker_taken lk_Taker_taken ?_
      refine x_var (by exact rfl) ?_
      refine x_fld S 0 (by exact rfl) T.c_Taker T.na_Taker_wide lk_Taker_wide ?_
      refine x_I0 ?_
      refine x_I0 ?_
      refine ⟨_, rfl, ?_⟩
      refine ited (fun c2 => ?_) (fun c2 => ?_)
      · refine x_var (by exact rfl) ?_
        refine x_var (by exact rfl) ?_
        refine x_fld S 0 (by exact rfl) T.c_Taker T.na_Taker_kept lk_Taker_kept ?_
        refine x_dni (k := Sum.inl _) S 1 (by exact rfl) ?_
        refine ⟨_, rfl, ?_⟩
        refine iteNone (fun c3 => ?_) (fun wc3 c3 => ?_)
        · try dsimp only [tSeq, tAsg, gName, tOp, tUn, tCB, tCons, tNil, tCall, tRet, tRetN, tDrop, tTest, tB, tC, tNext, tAugS, tAug, sFld1, sFldAug1, tMeth1, tMake, tMakeK1, tSl, tPart, tNoPart, sDPut1, tDPop, tBM, tBM0, tPar, gSub, tChain, tNot, tNotV, iList1, iTup1, iRng1, iRng2, List.set_cons_zero, List.set_cons_succ]
          refine x_var (by exact rfl) ?_
          refine x_var (by exact rfl) ?_
          refine x_fld S 0 (by exact rfl) T.c_Taker T.na_Taker_kept lk_Taker_kept ?_
          refine x_var (by exact rfl) ?_
          refine x_dput (k := Sum.inl _) S 1 (by exact rfl) (by omega) (fun H S => ?_)
          simp only [List.set_cons_zero, List.set_cons_succ] at S
          exact k _ (by unfold camK; first | (rw [if_pos ⟨⟨by assumption, by assumption⟩, by assumption⟩]; exact S.get 1 rfl) | (rw [if_neg (by rintro ⟨⟨a, b⟩, c⟩; first | contradiction | omega | simp_all)]; exact S.get 1 rfl)) (fun b o e n => by exact S.fr b o e (by simp [n]))
        · exact k _ (by unfold camK; first | (rw [if_pos ⟨⟨by assumption, by assumption⟩, by assumption⟩]; exact S.get 1 rfl) | (rw [if_neg (by rintro ⟨⟨a, b⟩, c⟩; first | contradiction | omega | simp_all)]; exact S.get 1 rfl)) (fun b o e n => by exact S.fr b o e (by simp [n]))
      · refine iteF ?_
        exact k _ (by unfold camK; first | (rw [if_pos ⟨⟨by assumption, by assumption⟩, by assumption⟩]; exact S.get 1 rfl) | (rw [if_neg (by rintro ⟨⟨a, b⟩, c⟩; first | contradiction | omega | simp_all)]; exact S.get 1 rfl)) (fun b o e n => by exact S.fr b o e (by simp [n]))
    · refine ⟨_, rfl, ?_⟩
      refine iteF ?_
      refine iteF ?_
      exact k _ (by unfold camK; first | (rw [if_pos ⟨⟨by assumption, by assumption⟩, by assumption⟩]; exact S.get 1 rfl) | (rw [if_neg (by rintro ⟨⟨a, b⟩, c⟩; first | contradiction | omega | simp_all)]; exact S.get 1 rfl)) (fun b o e n => by exact S.fr b o e (by simp [n]))
abbrev s_Taker_take : Stmt := (inClass (topS 3) 4)
theorem sc_Taker_take : FnScope ["self", "value"] ["self"] (defScope s_Taker_take) := ⟨rfl, rfl, rfl, by decide +kernel, rfl, by decide +kernel, by decide +kernel⟩
theorem ok_Taker_take {f : Addr} {fd : FuncData} {C : Addr} (F : L2.Fun K "take" "Taker.take" s_Taker_take f fd) (T : TkCls K C) : FnOk P w K mg base CX0 1 f fd ["self"] (spTake C) := by
  refine F.ok sc_Taker_take (fun vs H Q E h => ?_) (fun cdv A outer s H0 vs Q E hr h => ?_)
  · obtain ⟨p, dx, d, w, t, e, kvs, rfl, hp, hd, k0, k1⟩ := h
    rfl
  · obtain ⟨p, dx, d, w, t, e, kvs, rfl, hp, hd, k0, k1⟩ := h
    have hu := hu_of hr
    have S := Sep.of2 hp hd (ne_of hp hd (by intro z; cases z))
    refine ⟨_, pss_cons (ps_if (pt_cmp (pc_dni1 hu (pe_fldK K (pv 0)) (pe_fldK K (pv 0)))) (pss_one (ps_ret (pe_non))) (pss_nil))
      (pss_cons (ps_set (i := 1) sc_Taker_take.nd rfl (.inl rfl) (pe_dpop (pe_fldK K (pv 0)) (pe_fldK K (pv 0)) ⟨rfl, rfl, rfl, rfl⟩))
      (pss_cons (ps_fldaug1 (pv 0) (pe_int) in_add)
      (pss_one (ps_ret (pv 1))))), ?_⟩
    rw [show start ["self", "value"] [V.ref p] = [some (V.ref p), none] from rfl]
    try dsimp only [tSeq, tAsg, gName, tOp, tUn, tCB, tCons, tNil, tCall, tRet, tRetN, tDrop, tTest, tB, tC, tNext, tAugS, tAug, sFld1, sFldAug1, tMeth1, tMake, tMakeK1, tSl, tPart, tNoPart, sDPut1, tDPop, tBM, tBM0, tPar, gSub, tChain, tNot, tNotV, iList1, iTup1, iRng1, iRng2, List.set_cons_zero, List.set_cons_succ]
    refine x_if ?_
    try dsimp only [tSeq, tAsg, gName, tOp, tUn, tCB, tCons, tNil, tCall, tRet, tRetN, tDrop, tTest, tB, tC, tNext, tAugS, tAug, sFld1, sFldAug1, tMeth1, tMake, tMakeK1, tSl, tPart, tNoPart, sDPut1, tDPop, tBM, tBM0, tPar, gSub, tChain, tNot, tNotV, iList1, iTup1, iRng1, iRng2, List.set_cons_zero, List.set_cons_succ]
    refine x_var (by exact rfl) ?_
    refine x_fld S 0 (by exact rfl) T.c_Taker T.na_Taker_taken lk_Taker_taken ?_
    refine x_var (by exact rfl) ?_
    refine x_fld S 0 (by exact rfl) T.c_Taker T.na_Taker_kept lk_Taker_kept ?_
    refine x_dni (k := Sum.inl _) S 1 (by exact rfl) ?_
    refine ⟨_, rfl, ?_⟩
    refine iteNone (fun c1 => ?_) (fun wc1 c1 => ?_)
    · try dsimp only [tSeq, tAsg, gName, tOp, tUn, tCB, tCons, tNil, tCall, tRet, tRetN, tDrop, tTest, tB, tC, tNext, tAugS, tAug, sFld1, sFldAug1, tMeth1, tMake, tMakeK1, tSl, tPart, tNoPart, sDPut1, tDPop, tBM, tBM0, tPar, gSub, tChain, tNot, tNotV, iList1, iTup1, iRng1, iRng2, List.set_cons_zero, List.set_cons_succ]
      exact k0 (by assumption) _ (fun b o e => e)
    · try dsimp only [tSeq, tAsg, gName, tOp, tUn, tCB, tCons, tNil, tCall, tRet, tRetN, tDrop, tTest, tB, tC, tNext, tAugS, tAug, sFld1, sFldAug1, tMeth1, tMake, tMakeK1, tSl, tPart, tNoPart, sDPut1, tDPop, tBM, tBM0, tPar, gSub, tChain, tNot, tNotV, iList1, iTup1, iRng1, iRng2, List.set_cons_zero, List.set_cons_succ]
      refine x_var (by exact rfl) ?_
      refine x_fld S 0 (by exact rfl) T.c_Taker T.na_Taker_kept lk_Taker_kept ?_
      refine x_isD S 1 (by exact rfl) ?_
      refine x_var (by exact rfl) ?_
      refine x_fld S 0 (by exact rfl) T.c_Taker T.na_Taker_taken lk_Taker_taken ?_
      refine x_dpop (k := Sum.inl _) S 1 (by exact rfl) (by assumption) (fun H S => ?_)
      simp only [List.set_cons_zero, List.set_cons_succ] at S
      try dsimp only [tSeq, tAsg, gName, tOp, tUn, tCB, tCons, tNil, tCall, tRet, tRetN, tDrop, tTest, tB, tC, tNext, tAugS, tAug, sFld1, sFldAug1, tMeth1, tMake, tMakeK1, tSl, tPart, tNoPart, sDPut1, tDPop, tBM, tBM0, tPar, gSub, tChain, tNot, tNotV, iList1, iTup1, iRng1, iRng2, List.set_cons_zero, List.set_cons_succ]
      refine x_var (by exact rfl) ?_
      refine x_fldA S 0 (by exact rfl) T.c_Taker T.na_Taker_taken lk_Taker_taken ?_
      refine x_add ?_
      refine x_augf S 0 (by exact rfl) pt_Taker_taken (by exact Nat.le_of_ble_eq_true rfl) (fun H S => ?_)
      simp only [List.set_cons_zero, List.set_cons_succ] at S
      try dsimp only [tSeq, tAsg, gName, tOp, tUn, tCB, tCons, tNil, tCall, tRet, tRetN, tDrop, tTest, tB, tC, tNext, tAugS, tAug, sFld1, sFldAug1, tMeth1, tMake, tMakeK1, tSl, tPart, tNoPart, sDPut1, tDPop, tBM, tBM0, tPar, gSub, tChain, tNot, tNotV, iList1, iTup1, iRng1, iRng2, List.set_cons_zero, List.set_cons_succ]
      refine x_var (by exact rfl) ?_
      exact k1 _ (by assumption) _ (S.get 0 rfl) (S.get 1 rfl) S.out2
abbrev s_Taker_told : Stmt := (inClass (topS 3) 5)
theorem sc_Taker_told : FnScope ["self", "got"] ["self"] (defScope s_Taker_told) := ⟨rfl, rfl, rfl, by decide +kernel, rfl, by decide +kernel, by decide +kernel⟩
theorem ok_Taker_told {f : Addr} {fd : FuncData} {C : Addr} (F : L2.Fun K "told" "Taker.told" s_Taker_told f fd) (T : TkCls K C) : FnOk P w K mg base CX0 1 f fd ["self"] (spTold C) := by
  refine F.ok sc_Taker_told (fun vs H Q E h => ?_) (fun cdv A outer s H0 vs Q E hr h => ?_)
  · obtain ⟨p, dx, d, w, t, e, kvs, rfl, hp, hd, k⟩ := h
    rfl
  · obtain ⟨p, dx, d, w, t, e, kvs, rfl, hp, hd, k⟩ := h
    have hu := hu_of hr
    have S : Sep H0 [] H0 [(0, p, .ins C dx (F_Taker w t d e)), (0, d, .dK kvs)] := (Sep.of0.add 0 hd (fun _ z => nomatch z) (fun z => by cases z) (fun z => by cases z)).add 0 hp (fun c hc z => by rw [List.mem_singleton.mp hc] at z; exact ne_of hd hp (by intro z; cases z) z) (fun z => by cases z) (fun z => by cases z)
    refine ⟨_, pss_cons (ps_set (i := 1) sc_Taker_told.nd rfl (.inl rfl) (pe_fldK K (pv 0)))
      (pss_cons (ps_while PassesOwn.never (pt_cmp (pc_din1 hu (pv 1) (pe_fldK K (pv 0)))) (pss_one (ps_aug (i := 1) sc_Taker_told.nd rfl (.inl rfl) (pe_int) ip_add)))
      (pss_one (ps_ret (pe_tup1 (pa_cons (pv 1) (pa_cons (pe_op op_add (pe_fldK K (pv 0)) (pe_fldK K (pv 0))) pa_nil)))))), ?_⟩
    rw [show start ["self", "got"] [V.ref p] = [some (V.ref p), none] from rfl]
    try dsimp only [tSeq, tAsg, gName, tOp, tUn, tCB, tCons, tNil, tCall, tRet, tRetN, tDrop, tTest, tB, tC, tNext, tAugS, tAug, sFld1, sFldAug1, tMeth1, tMake, tMakeK1, tSl, tPart, tNoPart, sDPut1, tDPop, tBM, tBM0, tPar, gSub, tChain, tNot, tNotV, iList1, iTup1, iRng1, iRng2, List.set_cons_zero, List.set_cons_succ]
    refine x_var (by exact rfl) ?_
    refine x_fld S 0 (by exact rfl) T.c_Taker T.na_Taker_taken lk_Taker_taken ?_
    try dsimp only [tSeq, tAsg, gName, tOp, tUn, tCB, tCons, tNil, tCall, tRet, tRetN, tDrop, tTest, tB, tC, tNext, tAugS, tAug, sFld1, sFldAug1, tMeth1, tMake, tMakeK1, tSl, tPart, tNoPart, sDPut1, tDPop, tBM, tBM0, tPar, gSub, tChain, tNot, tNotV, iList1, iTup1, iRng1, iRng2, List.set_cons_zero, List.set_cons_succ]
    refine x_while (fun m σ H' => ∃ z : Int, σ = [some (.ref p), some (.int z)] ∧ H' = H0 ∧ m = above kvs z ∧ t ≤ z ∧ ∀ i, t ≤ i → i < z → valV kvs (.inl i : Key) ≠ none) (above kvs t) ?_ ?_
    · exact ⟨t, rfl, rfl, rfl, Int.le_refl _, fun i a b => absurd a (by omega)⟩
    · rintro m σ H ⟨z, rfl, rfl, rfl, hle, hall⟩
      try dsimp only [tSeq, tAsg, gName, tOp, tUn, tCB, tCons, tNil, tCall, tRet, tRetN, tDrop, tTest, tB, tC, tNext, tAugS, tAug, sFld1, sFldAug1, tMeth1, tMake, tMakeK1, tSl, tPart, tNoPart, sDPut1, tDPop, tBM, tBM0, tPar, gSub, tChain, tNot, tNotV, iList1, iTup1, iRng1, iRng2, List.set_cons_zero, List.set_cons_succ]
      refine x_var (by exact rfl) ?_
      refine x_var (by exact rfl) ?_
      refine x_fld S 0 (by exact rfl) T.c_Taker T.na_Taker_kept lk_Taker_kept ?_
      refine x_din (k := Sum.inl _) S 1 (by exact rfl) ?_
      refine ⟨_, rfl, ?_⟩
      refine iteSome (fun wc1 c1 => ?_) (fun c1 => ?_)
      · refine x_turn ?_
        try dsimp only [tSeq, tAsg, gName, tOp, tUn, tCB, tCons, tNil, tCall, tRet, tRetN, tDrop, tTest, tB, tC, tNext, tAugS, tAug, sFld1, sFldAug1, tMeth1, tMake, tMakeK1, tSl, tPart, tNoPart, sDPut1, tDPop, tBM, tBM0, tPar, gSub, tChain, tNot, tNotV, iList1, iTup1, iRng1, iRng2, List.set_cons_zero, List.set_cons_succ]
        refine ⟨_, rfl, ?_⟩
        refine x_ip ?_
        refine ⟨_, above_lt (by assumption), z + 1, rfl, rfl, rfl, by omega, fun i a b => ?_⟩
        by_cases e : i = z
        · subst e; intro q; simp_all
        · exact hall i a (by omega)
      · have hno := c1
        try dsimp only [tSeq, tAsg, gName, tOp, tUn, tCB, tCons, tNil, tCall, tRet, tRetN, tDrop, tTest, tB, tC, tNext, tAugS, tAug, sFld1, sFldAug1, tMeth1, tMake, tMakeK1, tSl, tPart, tNoPart, sDPut1, tDPop, tBM, tBM0, tPar, gSub, tChain, tNot, tNotV, iList1, iTup1, iRng1, iRng2, List.set_cons_zero, List.set_cons_succ]
        try dsimp only [tSeq, tAsg, gName, tOp, tUn, tCB, tCons, tNil, tCall, tRet, tRetN, tDrop, tTest, tB, tC, tNext, tAugS, tAug, sFld1, sFldAug1, tMeth1, tMake, tMakeK1, tSl, tPart, tNoPart, sDPut1, tDPop, tBM, tBM0, tPar, gSub, tChain, tNot, tNotV, iList1, iTup1, iRng1, iRng2, List.set_cons_zero, List.set_cons_succ]
        refine x_var (by exact rfl) ?_
        refine x_var (by exact rfl) ?_
        refine x_fld S 0 (by exact rfl) T.c_Taker T.na_Taker_taken lk_Taker_taken ?_
        refine x_var (by exact rfl) ?_
        refine x_fld S 0 (by exact rfl) T.c_Taker T.na_Taker_wide lk_Taker_wide ?_
        refine x_I0 ?_
        refine x_tup S (by exact Nat.le_of_ble_eq_true rfl) (fun U1 H S => ?_)
        exact k _ _ _ ⟨hle, hall, hno⟩ (S.new_none 0 rfl) (S.get 0 rfl) (fun b o e => S.fr b o e (by simp))
end
end G

set_option linter.all false
set_option maxRecDepth 100000
set_option maxHeartbeats 4000000
namespace G
open PySem PySem.Spec PyProof.Rows L2

def spMixed (K : PySem.W.Frag) : Sp := fun vs H Q _ => ∃ (p q s : Addr) (n : Int) (cs xs : List Int), vs = [.ref p, .ref s] ∧ H p = some (.lst [.int n, .ref q]) ∧ H q = some (.lst (cs.map V.int)) ∧ p ≠ q ∧ Hold n cs ∧ n < 2 ^ 38 ∧ H s = some (.lst (xs.map V.int)) ∧ s ≠ p ∧ s ≠ q ∧ xs.length ≤ 1000 ∧
  ∀ (n' : Int) (cs' ys : List Int) (r : Addr) (H' : Hp), n' ≤ n + 3 * xs.length → Hold n' cs' → (∀ x, x ∈ ys ↔ x ∈ xs) → ys.length ≤ 2 * xs.length → H r = none → H' r = some (.lst (ys.map V.int)) → H' p = some (.lst [.int n', .ref q]) → H' q = some (.lst (cs'.map V.int)) → (∀ b o, H b = some o → b ≠ p → b ≠ q → H' b = some o) → Q (.ref r) H'
theorem c_mixed {K : PySem.W.Frag} {H0 H : Hp} {ft : List Addr} {l : List Cell} {t t' t2 : Nat} {p q s : Addr} {n : Int} {cs xs : List Int} {Q : VK} {E : XK} (S : Sep H0 ft H l) (i j m : Nat) (hi : l[i]? = some (t, p, .lst [.int n, .ref q])) (hj : l[j]? = some (t', q, .lst (cs.map V.int))) (hm : l[m]? = some (t2, s, .lst (xs.map V.int)))
    (h : Hold n cs) (hn : n < 2 ^ 38) (hx : xs.length ≤ 1000) (k : ∀ (n' : Int) (cs' ys : List Int) (r : Addr) (H' : Hp), n' ≤ n + 3 * xs.length → Hold n' cs' → (∀ x, x ∈ ys ↔ x ∈ xs) → ys.length ≤ 2 * xs.length → Sep H0 ft H' ((2, r, .lst (ys.map V.int)) :: ((l.set i (t, p, .lst [.int n', .ref q])).set j (t', q, .lst (cs'.map V.int)))) → Q (.ref r) H')
    (d : i ≠ j := by decide) (d2 : m ≠ i := by decide) (d3 : m ≠ j := by decide) (ht : t = 1 ∨ t = 2 := by first | exact .inl rfl | exact .inr rfl) (ht' : t' = 1 ∨ t' = 2 := by first | exact .inl rfl | exact .inr rfl) : spMixed K [.ref p, .ref s] H Q E :=
  ⟨p, q, s, n, cs, xs, rfl, S.get i hi, S.get j hj, S.ne i j hi hj d, h, hn, S.get m hm, S.ne m i hm hi d2, S.ne m j hm hj d3, hx, fun n' cs' ys r H' h1 hh hy hl hr er e1 e2 F =>
    k n' cs' ys r H' h1 hh hy hl (S.got (S.chg2 i j hi hj d F e1 e2 ht ht') (by rw [map_set (by rw [List.getElem?_set_ne d]; exact hj), map_set hi]) hr er)⟩
section
variable {P : Program} {w : World} {K : PySem.W.Frag} {mg : Str → Option Value} {base : Heap}
abbrev s_law_mixed : Stmt := (topS 8)
theorem sc_law_mixed : FnScope ["_law_hold", "_law_some", "_law_found", "_law_one"] ["_law_hold", "_law_some"] (defScope s_law_mixed) := ⟨rfl, rfl, rfl, by decide +kernel, rfl, by decide +kernel, by decide +kernel⟩
theorem ok_law_mixed {f : Addr} {fd : FuncData} (F : L2.Fun K "_law_mixed" "_law_mixed" s_law_mixed f fd) (cd : Cal P w K mg base CX0 1 "_law_draw" spDraw) (z_len : mg "len" = none) : FnOk P w K mg base CX0 2 f fd ["_law_hold", "_law_some"] (spMixed K) := by
  refine F.ok sc_law_mixed (fun vs H Q E h => ?_) (fun cdv A outer s H0 vs Q E hr h => ?_)
  · obtain ⟨p, q, s, n, cs, xs, rfl, hp, hq, npq, hh, hn, hs, sp, sq, hx, k⟩ := h
    rfl
  · obtain ⟨p, q, s, n, cs, xs, rfl, hp, hq, npq, hh, hn, hs, sp, sq, hx, k⟩ := h
    have hu := hu_of hr
    have S : Sep H0 [p, q] H0 [(1, p, .lst [.int n, .ref q]), (1, q, .lst (cs.map V.int)), (0, s, .lst (xs.map V.int))] := ((Sep.of2 hp hq npq).add 0 hs (fun c hc z => by simp only [List.mem_cons, List.not_mem_nil, or_false] at hc; rcases hc with rfl | rfl; exact sp z.symm; exact sq z.symm) (fun z => by cases z) (fun z => by cases z)).sub [1, 2, 0]
    refine ⟨_, pss_cons (ps_set (i := 2) sc_law_mixed.nd rfl (.inl rfl) (pe_lst1 pa_nil))
      (pss_cons (ps_for PassesOwn.never rfl (pi_listK K (pv 1)) (pg_name (i := 3) sc_law_mixed.nd rfl (.inl rfl)) (pss_cons (ps_expr (pe_bm PySem.F.plainAttrs_list PySem.F.slot_list_insert PySem.F.type_list_insert mt_ins (pv 2) (pa_cons (pe_c cd hr (by decide) (by rfl) pass0 (pa_cons (pv 0) (pa_cons (pe_op op_add (pe_callB (cl_lenK K) (by rfl) z_len PySem.boot_len (pa_cons (pv 2) pa_nil)) (pe_int)) pa_nil))) (pa_cons (pv 3) pa_nil))))
      (pss_one (ps_if (pt_cmpR op_eq (pe_c cd hr (by decide) (by rfl) pass0 (pa_cons (pv 0) (pa_cons (pe_int) pa_nil))) (pe_int) (nomark _)) (pss_one (ps_expr (pe_bm PySem.F.plainAttrs_list PySem.F.slot_list_insert PySem.F.type_list_insert mt_ins (pv 2) (pa_cons (pe_c cd hr (by decide) (by rfl) pass0 (pa_cons (pv 0) (pa_cons (pe_op op_add (pe_callB (cl_lenK K) (by rfl) z_len PySem.boot_len (pa_cons (pv 2) pa_nil)) (pe_int)) pa_nil))) (pa_cons (pv 3) pa_nil))))) (pss_nil)))))
      (pss_one (ps_ret (pv 2)))), ?_⟩
    rw [show start ["_law_hold", "_law_some", "_law_found", "_law_one"] [V.ref p, V.ref s] = [some (V.ref p), some (V.ref s), none, none] from rfl]
    try dsimp only [tSeq, tAsg, gName, tOp, tUn, tCB, tCons, tNil, tCall, tRet, tRetN, tDrop, tTest, tB, tC, tNext, tAugS, tAug, sFld1, sFldAug1, tMeth1, tMake, tMakeK1, tSl, tPart, tNoPart, sDPut1, tDPop, tBM, tBM0, tPar, gSub, tChain, tNot, tNotV, iList1, iTup1, iRng1, iRng2, List.set_cons_zero, List.set_cons_succ]
    refine x_lst S (by exact Nat.le_of_ble_eq_true rfl) (fun L1 H S => ?_)
    try dsimp only [tSeq, tAsg, gName, tOp, tUn, tCB, tCons, tNil, tCall, tRet, tRetN, tDrop, tTest, tB, tC, tNext, tAugS, tAug, sFld1, sFldAug1, tMeth1, tMake, tMakeK1, tSl, tPart, tNoPart, sDPut1, tDPop, tBM, tBM0, tPar, gSub, tChain, tNot, tNotV, iList1, iTup1, iRng1, iRng2, List.set_cons_zero, List.set_cons_succ]
    refine x_for ?_
    try dsimp only [tOp, tUn, tCB, tCons, tNil, tCall, tC, tMeth1, tMake, tMakeK1, tSl, tPart, tNoPart, tDPop, tChain, tNotV, iList1, iTup1, iRng1, iRng2]
    refine x_var (by exact rfl) ?_
    refine x_ilist S 3 (by exact rfl) ?_
    refine forL (xs := xs.map V.int) (fun i σ H1 => ∃ (n1 : Int) (cs1 ys : List Int) (o : Option V), σ = [some (.ref p), some (.ref s), some (.ref L1), o] ∧ n1 ≤ n + 3 * i ∧ i ≤ xs.length ∧ Hold n1 cs1 ∧ (∀ x, x ∈ ys ↔ x ∈ xs.take i) ∧ ys.length ≤ 2 * i ∧ Sep H0 [p, q] H1 [(2, L1, .lst (ys.map V.int)), (1, p, .lst [.int n1, .ref q]), (1, q, .lst (cs1.map V.int)), (0, s, .lst (xs.map V.int))]) ?_ ?_ ?_ ?_
    · exact ⟨n, cs, [], none, rfl, by omega, by omega, hh, fun x => by simp, by simp, S⟩
    · rintro i σ H hi ⟨n1, cs1, ys, o, rfl, hn1, hi9, hh, hys, hyl, S⟩
      exact S.sl 3 rfl
    · rintro i y σ H hi ⟨n1, cs1, ys, o, rfl, hn1, hi9, hh, hys, hyl, S⟩
      try dsimp only [tSeq, tAsg, gName, tOp, tUn, tCB, tCons, tNil, tCall, tRet, tRetN, tDrop, tTest, tB, tC, tNext, tAugS, tAug, sFld1, sFldAug1, tMeth1, tMake, tMakeK1, tSl, tPart, tNoPart, sDPut1, tDPop, tBM, tBM0, tPar, gSub, tChain, tNot, tNotV, iList1, iTup1, iRng1, iRng2, List.set_cons_zero, List.set_cons_succ]
      try dsimp only [tSeq, tAsg, gName, tOp, tUn, tCB, tCons, tNil, tCall, tRet, tRetN, tDrop, tTest, tB, tC, tNext, tAugS, tAug, sFld1, sFldAug1, tMeth1, tMake, tMakeK1, tSl, tPart, tNoPart, sDPut1, tDPop, tBM, tBM0, tPar, gSub, tChain, tNot, tNotV, iList1, iTup1, iRng1, iRng2, List.set_cons_zero, List.set_cons_succ]
      obtain ⟨z, hz, rfl⟩ : ∃ z, xs[i]? = some z ∧ y = V.int z := by
        rw [List.getElem?_map] at hi
        cases e : xs[i]? with
        | none => rw [e] at hi; cases hi
        | some z => rw [e] at hi; exact ⟨z, rfl, (Option.some.inj hi).symm⟩
      have hil := (List.getElem?_eq_some_iff.mp hz).1
      refine x_var (by exact rfl) ?_
      refine ⟨x_ty S 0 (by exact rfl), ?_⟩
      refine x_var (by exact rfl) ?_
      refine x_var (by exact rfl) ?_
      refine x_lenI S 0 (by exact rfl) ?_
      refine x_I0 ?_
      refine c_draw S 1 2 (by exact rfl) (by exact rfl) hh (by first | omega | decide | (simp only [len_insAt, List.length_map, List.length_append, List.length_cons, List.length_nil, List.length_take, List.length_drop] at *; omega)) (by first | omega | decide | (simp only [len_insAt, List.length_map, List.length_append, List.length_cons, List.length_nil, List.length_take, List.length_drop] at *; omega)) (by first | omega | decide | (simp only [len_insAt, List.length_map, List.length_append, List.length_cons, List.length_nil, List.length_take, List.length_drop] at *; omega)) (fun r1 cs1 H r1a r1b hh S => ?_)
      simp only [List.set_cons_zero, List.set_cons_succ] at S
      refine x_var (by exact rfl) ?_
      refine x_insI S 0 (by exact rfl) (by first | omega | decide | (simp only [len_insAt, List.length_map, List.length_append, List.length_cons, List.length_nil, List.length_take, List.length_drop] at *; omega)) (by omega) (by first | omega | decide | (simp only [len_insAt, List.length_map, List.length_append, List.length_cons, List.length_nil, List.length_take, List.length_drop] at *; omega)) (fun H S => ?_)
      simp only [List.set_cons_zero, List.set_cons_succ] at S
      try dsimp only [tSeq, tAsg, gName, tOp, tUn, tCB, tCons, tNil, tCall, tRet, tRetN, tDrop, tTest, tB, tC, tNext, tAugS, tAug, sFld1, sFldAug1, tMeth1, tMake, tMakeK1, tSl, tPart, tNoPart, sDPut1, tDPop, tBM, tBM0, tPar, gSub, tChain, tNot, tNotV, iList1, iTup1, iRng1, iRng2, List.set_cons_zero, List.set_cons_succ]
      refine x_if ?_
      try dsimp only [tSeq, tAsg, gName, tOp, tUn, tCB, tCons, tNil, tCall, tRet, tRetN, tDrop, tTest, tB, tC, tNext, tAugS, tAug, sFld1, sFldAug1, tMeth1, tMake, tMakeK1, tSl, tPart, tNoPart, sDPut1, tDPop, tBM, tBM0, tPar, gSub, tChain, tNot, tNotV, iList1, iTup1, iRng1, iRng2, List.set_cons_zero, List.set_cons_succ]
      refine x_var (by exact rfl) ?_
      refine c_draw S 1 2 (by exact rfl) (by exact rfl) hh (by first | omega | decide | (simp only [len_insAt, List.length_map, List.length_append, List.length_cons, List.length_nil, List.length_take, List.length_drop] at *; omega)) (by first | omega | decide | (simp only [len_insAt, List.length_map, List.length_append, List.length_cons, List.length_nil, List.length_take, List.length_drop] at *; omega)) (by first | omega | decide | (simp only [len_insAt, List.length_map, List.length_append, List.length_cons, List.length_nil, List.length_take, List.length_drop] at *; omega)) (fun r2 cs2 H r2a r2b hh S => ?_)
      simp only [List.set_cons_zero, List.set_cons_succ] at S
      refine x_eq ?_
      refine ⟨_, rfl, ?_⟩
      refine iteq (fun c1 => ?_) (fun c1 => ?_)
      · try dsimp only [tSeq, tAsg, gName, tOp, tUn, tCB, tCons, tNil, tCall, tRet, tRetN, tDrop, tTest, tB, tC, tNext, tAugS, tAug, sFld1, sFldAug1, tMeth1, tMake, tMakeK1, tSl, tPart, tNoPart, sDPut1, tDPop, tBM, tBM0, tPar, gSub, tChain, tNot, tNotV, iList1, iTup1, iRng1, iRng2, List.set_cons_zero, List.set_cons_succ]
        refine x_var (by exact rfl) ?_
        refine ⟨x_ty S 0 (by exact rfl), ?_⟩
        refine x_var (by exact rfl) ?_
        refine x_var (by exact rfl) ?_
        refine x_lenI S 0 (by exact rfl) ?_
        refine x_I0 ?_
        refine c_draw S 1 2 (by exact rfl) (by exact rfl) hh (by first | omega | decide | (simp only [len_insAt, List.length_map, List.length_append, List.length_cons, List.length_nil, List.length_take, List.length_drop] at *; omega)) (by first | omega | decide | (simp only [len_insAt, List.length_map, List.length_append, List.length_cons, List.length_nil, List.length_take, List.length_drop] at *; omega)) (by first | omega | decide | (simp only [len_insAt, List.length_map, List.length_append, List.length_cons, List.length_nil, List.length_take, List.length_drop] at *; omega)) (fun r3 cs3 H r3a r3b hh S => ?_)
        simp only [List.set_cons_zero, List.set_cons_succ] at S
        refine x_var (by exact rfl) ?_
        refine x_insI S 0 (by exact rfl) (by first | omega | decide | (simp only [len_insAt, List.length_map, List.length_append, List.length_cons, List.length_nil, List.length_take, List.length_drop] at *; omega)) (by omega) (by first | omega | decide | (simp only [len_insAt, List.length_map, List.length_append, List.length_cons, List.length_nil, List.length_take, List.length_drop] at *; omega)) (fun H S => ?_)
        simp only [List.set_cons_zero, List.set_cons_succ] at S
        refine ⟨_, _, _, _, rfl, by omega, by omega, hh, fun x => ?_, by first | (rw [len_insAt]; omega) | (rw [len_insAt, len_insAt]; omega), S⟩
        have ht : xs.take (i + 1) = xs.take i ++ [z] := by rw [List.take_add_one, hz]; rfl
        rw [ht, List.mem_append, List.mem_singleton, ← hys x]
        simp only [mem_insAt]
        constructor
        · rintro h; rcases h with h | h <;> first | exact .inr h | exact .inl h | (rcases h with h | h <;> first | exact .inr h | exact .inl h)
        · rintro (h | h) <;> simp [h]
      · refine ⟨_, _, _, _, rfl, by omega, by omega, hh, fun x => ?_, by first | (rw [len_insAt]; omega) | (rw [len_insAt, len_insAt]; omega), S⟩
        have ht : xs.take (i + 1) = xs.take i ++ [z] := by rw [List.take_add_one, hz]; rfl
        rw [ht, List.mem_append, List.mem_singleton, ← hys x]
        simp only [mem_insAt]
        constructor
        · rintro h; rcases h with h | h <;> first | exact .inr h | exact .inl h | (rcases h with h | h <;> first | exact .inr h | exact .inl h)
        · rintro (h | h) <;> simp [h]
    · rintro σ H ⟨n1, cs1, ys, o, rfl, hn1, hi9, hh, hys, hyl, S⟩
      rw [List.length_map, List.take_length] at hys
      rw [List.length_map] at hn1 hyl
      try dsimp only [tSeq, tAsg, gName, tOp, tUn, tCB, tCons, tNil, tCall, tRet, tRetN, tDrop, tTest, tB, tC, tNext, tAugS, tAug, sFld1, sFldAug1, tMeth1, tMake, tMakeK1, tSl, tPart, tNoPart, sDPut1, tDPop, tBM, tBM0, tPar, gSub, tChain, tNot, tNotV, iList1, iTup1, iRng1, iRng2, List.set_cons_zero, List.set_cons_succ]
      try dsimp only [tSeq, tAsg, gName, tOp, tUn, tCB, tCons, tNil, tCall, tRet, tRetN, tDrop, tTest, tB, tC, tNext, tAugS, tAug, sFld1, sFldAug1, tMeth1, tMake, tMakeK1, tSl, tPart, tNoPart, sDPut1, tDPop, tBM, tBM0, tPar, gSub, tChain, tNot, tNotV, iList1, iTup1, iRng1, iRng2, List.set_cons_zero, List.set_cons_succ]
      refine x_var (by exact rfl) ?_
      exact k _ _ _ _ _ (by omega) hh hys (by omega) (S.new_none 0 rfl) (S.get 0 rfl) (S.get 1 rfl) (S.get 2 rfl) S.out2
end
end G

set_option linter.all false
set_option maxRecDepth 100000
set_option maxHeartbeats 4000000
namespace G
open PySem PySem.Spec PyProof.Rows L2

/-- so many times taken: what came, where it stands behind, what is still kept -/
def takeN : Nat → Int → List (Key × V) → List V × Int × List (Key × V)
  | 0, t, k => ([], t, k)
  | m + 1, t, k => match valV k (.inl t : Key) with
    | none => ([], t, k)
    | some v => (v :: (takeN m (t + 1) (dropK k (.inl t))).1, (takeN m (t + 1) (dropK k (.inl t))).2)
theorem takeN_none {t : Int} {k : List (Key × V)} (h : valV k (.inl t : Key) = none) : ∀ m, takeN m t k = ([], t, k)
  | 0 => rfl
  | m + 1 => by unfold takeN; rw [h]
theorem takeN_some {t : Int} {k : List (Key × V)} {v : V} (h : valV k (.inl t : Key) = some v) (m : Nat) : takeN (m + 1) t k = (v :: (takeN m (t + 1) (dropK k (.inl t))).1, (takeN m (t + 1) (dropK k (.inl t))).2) := by
  rw [takeN, h]
def isN (v : V) : Bool := decide (v = .non)
def spTaken (C : Addr) : Sp := fun vs H Q _ => ∃ (p dx d : Addr) (w t : Int) (e : V) (kvs : List (Key × V)) (m : Nat) (zs : List Int) (t' : Int) (k' : List (Key × V)), vs = [.ref p, .int m] ∧ H p = some (.ins C dx (F_Taker w t d e)) ∧ H d = some (.dK kvs) ∧ m ≤ 1000 ∧ takeN m t kvs = (zs.map V.int, t', k') ∧
  ∀ (r : Addr) (H' : Hp), H r = none → H' r = some (.lst (zs.map V.int)) → H' p = some (.ins C dx (F_Taker w t' d e)) → H' d = some (.dK k') → (∀ b o, H b = some o → b ≠ p → b ≠ d → H' b = some o) → Q (.ref r) H'
theorem c_taken {C : Addr} {H0 H : Hp} {ft : List Addr} {l : List Cell} {t1 t2 m : Nat} {p dx d : Addr} {w t t' : Int} {e : V} {kvs k' : List (Key × V)} {zs : List Int} {Q : VK} {E : XK} (S : Sep H0 ft H l) (i j : Nat) (h : l[i]? = some (t1, p, .ins C dx (F_Taker w t d e))) (h' : l[j]? = some (t2, d, .dK kvs))
    (hm : m ≤ 1000) (e0 : takeN m t kvs = (zs.map V.int, t', k')) (k : ∀ r H', Sep H0 ft H' ((2, r, .lst (zs.map V.int)) :: ((l.set i (t1, p, .ins C dx (F_Taker w t' d e))).set j (t2, d, .dK k'))) → Q (.ref r) H') (nm : i ≠ j := by decide)
    (ht1 : t1 = 1 ∨ t1 = 2 := by first | exact .inl rfl | exact .inr rfl) (ht : t2 = 1 ∨ t2 = 2 := by first | exact .inl rfl | exact .inr rfl) : spTaken C [.ref p, .int m] H Q E :=
  ⟨p, dx, d, w, t, e, kvs, m, zs, t', k', rfl, S.get i h, S.get j h', hm, e0, fun r H' hr er e1 e2 F => k r H' (S.got (S.chg2 i j h h' nm F e1 e2 ht1 ht) (by rw [map_set (by rw [List.getElem?_set_ne nm]; exact h'), map_set h]) hr er)⟩
section
variable {P : Program} {w : World} {K : PySem.W.Frag} {mg : Str → Option Value} {base : Heap}
abbrev s_law_taken : Stmt := (topS 9)
theorem sc_law_taken : FnScope ["_law_taker", "_law_many", "_law_found", "_law_turn", "_law_piece"] ["_law_taker", "_law_many"] (defScope s_law_taken) := ⟨rfl, rfl, rfl, by decide +kernel, rfl, by decide +kernel, by decide +kernel⟩
theorem ok_law_taken {f : Addr} {fd : FuncData} {C : Addr} (F : L2.Fun K "_law_taken" "_law_taken" s_law_taken f fd) (mt : Met P w K mg base CX0 1 C "take" (spTake C)) (z_range : mg "range" = none) : FnOk P w K mg base CX0 2 f fd ["_law_taker", "_law_many"] (spTaken C) := by
  refine F.ok sc_law_taken (fun vs H Q E h => ?_) (fun cdv A outer s H0 vs Q E hr h => ?_)
  · obtain ⟨p, dx, d, w, t, e, kvs, m, zs, t', k', rfl, hp, hd, hm, e0, k⟩ := h
    rfl
  · obtain ⟨p, dx, d, w, t, e, kvs, m, zs, t', k', rfl, hp, hd, hm, e0, k⟩ := h
    have hu := hu_of hr
    have S := Sep.of2 hp hd (ne_of hp hd (by intro z; cases z))
    refine ⟨_, pss_cons (ps_setLc (i := 2) (own := [("_law_turn", 3)]) (g := gName 3) rfl sc_law_taken.nd rfl rfl (sw_true rfl rfl rfl (by decide +kernel)) (pi_range1 (by rfl) z_range (pa_cons (pv 1) pa_nil)) (blkOk_by (N := ["_law_taker", "_law_many", "_law_found", "_law_turn", "_law_piece"]) (sc := defScope s_law_taken) (by decide +kernel)) (fun _ _ _ _ _ => pg_name (i := 3) sc_law_taken.nd rfl (Or.inl rfl)) (fun _ _ _ _ _ => pts_nil) (fun _ _ _ _ _ => pe_mt0 mt hr (by decide) pass0 (pv 0)))
      (pss_one (ps_ret (pe_lc (own := [("_law_piece", 4)]) (g := gName 4) rfl sc_law_taken.nd (pi_listK K (pv 2)) (blkOk_by (N := ["_law_taker", "_law_many", "_law_found", "_law_turn", "_law_piece"]) (sc := defScope s_law_taken) (by decide +kernel)) (fun _ _ _ _ _ => pg_name (i := 4) sc_law_taken.nd rfl (Or.inl rfl)) (fun _ _ _ _ _ => pts_one (pt_cmpR op_notN (pv 4) (pe_non) (nomark _))) (fun _ _ _ _ _ => pv 4)))), ?_⟩
    rw [show start ["_law_taker", "_law_many", "_law_found", "_law_turn", "_law_piece"] [V.ref p, V.int m] = [some (V.ref p), some (V.int m), none, none, none] from rfl]
    try dsimp only [tSeq, tAsg, gName, tOp, tUn, tCB, tCons, tNil, tCall, tRet, tRetN, tDrop, tTest, tB, tC, tNext, tAugS, tAug, sFld1, sFldAug1, tMeth1, tMake, tMakeK1, tSl, tPart, tNoPart, sDPut1, tDPop, tBM, tBM0, tPar, gSub, tChain, tNot, tNotV, iList1, iTup1, iRng1, iRng2, List.set_cons_zero, List.set_cons_succ]
    refine x_lc ?_
    try dsimp only [tOp, tUn, tCB, tCons, tNil, tCall, tC, tMeth1, tMake, tMakeK1, tSl, tPart, tNoPart, tDPop, tChain, tNotV, iList1, iTup1, iRng1, iRng2]
    refine x_var (by exact rfl) ?_
    refine ⟨_, rfl, by omega, by omega, ?_⟩
    refine lcR S (fun D1 H S => ⟨fun i H1 => ∃ (acc : List V) (t1 : Int) (k1 : List (Key × V)), i ≤ m ∧ acc.length = i ∧ acc.filter (fun v => !isN v) ++ (takeN (m - i) t1 k1).1 = zs.map V.int ∧ (takeN (m - i) t1 k1).2 = (t', k') ∧ Sep H0 [p, d] H1 [(2, D1, .lst acc), (1, p, .ins C dx (F_Taker w t1 d e)), (1, d, .dK k1)], ?_, ?_, ?_⟩)
    · exact ⟨[], t, kvs, by omega, rfl, by rw [Nat.sub_zero, e0]; rfl, by rw [Nat.sub_zero, e0], S⟩
    · rintro i H hi ⟨acc, t1, k1, hi9, hlen, hfil, hend, S⟩
      refine ⟨rfl, ?_⟩
      try dsimp only [wipe, tYes, tSeq, tAsg, gName, tOp, tUn, tCB, tCons, tNil, tCall, tRet, tRetN, tDrop, tTest, tB, tC, tNext, tAugS, tAug, sFld1, sFldAug1, tMeth1, tMake, tMakeK1, tSl, tPart, tNoPart, sDPut1, tDPop, tBM, tBM0, tPar, gSub, tChain, tNot, tNotV, iList1, iTup1, iRng1, iRng2, List.set_cons_zero, List.set_cons_succ]
      refine iteT ?_
      refine x_var (by exact rfl) ?_
      refine x_meth S 1 (by exact rfl) nk_Taker_take ?_
      refine c_take S 1 2 (by exact rfl) (by exact rfl) (fun hn H S => ?_) (fun v hv H S => ?_)
      · refine x_lcapp S 0 (by exact rfl) (by omega) (fun H S => ?_)
        simp only [List.set_cons_zero, List.set_cons_succ] at S
        refine ⟨_, t1, k1, by omega, by rw [List.length_append, hlen]; rfl, ?_, ?_, S⟩
        · rw [List.filter_append, takeN_none hn, ← hfil, takeN_none hn]
          show acc.filter _ ++ [] ++ [] = _
          rw [List.append_nil]
        · rw [takeN_none hn, ← hend, takeN_none hn]
      · simp only [List.set_cons_zero, List.set_cons_succ] at S
        refine x_lcapp S 0 (by exact rfl) (by omega) (fun H S => ?_)
        simp only [List.set_cons_zero, List.set_cons_succ] at S
        have em : m - i = (m - (i + 1)) + 1 := by omega
        rw [em, takeN_some hv] at hfil hend
        have hvn : isN v = false := by
          have hm1 : v ∈ zs.map V.int := by rw [← hfil]; simp
          obtain ⟨z, _, rfl⟩ := List.mem_map.mp hm1
          rfl
        refine ⟨_, _, _, by omega, by rw [List.length_append, hlen]; rfl, ?_, hend, S⟩
        rw [List.filter_append, ← hfil]
        simp [hvn]
    · rintro H ⟨acc, t1, k1, hi9, hlen, hfil, hend, S⟩
      rw [show Int.toNat (m : Int) = m from rfl] at hlen hfil hend
      rw [Nat.sub_self] at hfil hend
      obtain ⟨rfl, rfl⟩ : t1 = t' ∧ k1 = k' := Prod.mk.inj hend
      have hfil : acc.filter (fun v => !isN v) = zs.map V.int := by rw [← hfil]; exact (List.append_nil _).symm
      try dsimp only [tSeq, tAsg, gName, tOp, tUn, tCB, tCons, tNil, tCall, tRet, tRetN, tDrop, tTest, tB, tC, tNext, tAugS, tAug, sFld1, sFldAug1, tMeth1, tMake, tMakeK1, tSl, tPart, tNoPart, sDPut1, tDPop, tBM, tBM0, tPar, gSub, tChain, tNot, tNotV, iList1, iTup1, iRng1, iRng2, List.set_cons_zero, List.set_cons_succ]
      try dsimp only [tSeq, tAsg, gName, tOp, tUn, tCB, tCons, tNil, tCall, tRet, tRetN, tDrop, tTest, tB, tC, tNext, tAugS, tAug, sFld1, sFldAug1, tMeth1, tMake, tMakeK1, tSl, tPart, tNoPart, sDPut1, tDPop, tBM, tBM0, tPar, gSub, tChain, tNot, tNotV, iList1, iTup1, iRng1, iRng2, List.set_cons_zero, List.set_cons_succ]
      refine x_lc ?_
      try dsimp only [tOp, tUn, tCB, tCons, tNil, tCall, tC, tMeth1, tMake, tMakeK1, tSl, tPart, tNoPart, tDPop, tChain, tNotV, iList1, iTup1, iRng1, iRng2]
      refine x_var (by exact rfl) ?_
      refine x_ilist S 0 (by exact rfl) ?_
      refine lcL (xs := acc) S (fun D2 H S => ⟨fun i H1 => ∃ acc2 : List V, acc2 = (acc.take i).filter (fun v => !isN v) ∧ Sep H0 [p, d] H1 [(2, D2, .lst acc2), (2, D1, .lst acc), (1, p, .ins C dx (F_Taker w t1 d e)), (1, d, .dK k1)], ?_, ?_, ?_, ?_⟩)
      · exact ⟨[], rfl, S⟩
      · rintro i H hi ⟨acc2, rfl, S⟩
        exact S.sl 1 rfl
      · rintro i y H hi ⟨acc2, rfl, S⟩
        refine ⟨rfl, ?_⟩
        try dsimp only [wipe, tYes, tSeq, tAsg, gName, tOp, tUn, tCB, tCons, tNil, tCall, tRet, tRetN, tDrop, tTest, tB, tC, tNext, tAugS, tAug, sFld1, sFldAug1, tMeth1, tMake, tMakeK1, tSl, tPart, tNoPart, sDPut1, tDPop, tBM, tBM0, tPar, gSub, tChain, tNot, tNotV, iList1, iTup1, iRng1, iRng2, List.set_cons_zero, List.set_cons_succ]
        refine x_var (by exact rfl) ?_
        refine ⟨rfl, ?_⟩
        refine ⟨_, rfl, ?_⟩
        refine itend (fun c1 => ?_) (fun c1 => ?_)
        · refine x_var (by exact rfl) ?_
          refine x_lcapp S 0 (by exact rfl) (by have := List.length_filter_le (fun v => !isN v) (acc.take i); rw [List.length_take] at this; omega) (fun H S => ?_)
          refine ⟨_, ?_, S⟩
          rw [List.take_add_one, hi, List.filter_append]
          have hv : isN y = false := decide_eq_false c1
          simp [hv]
        · refine ⟨_, ?_, S⟩
          rw [List.take_add_one, hi, List.filter_append]
          have hv : isN y = true := decide_eq_true c1
          simp [hv]
      · rintro H ⟨acc2, rfl, S⟩
        rw [List.take_length, hfil] at S
        exact k _ _ (S.new_none 0 rfl) (S.get 0 rfl) (S.get 2 rfl) (S.get 3 rfl) S.out2
end
end G

set_option linter.all false
set_option maxRecDepth 100000
set_option maxHeartbeats 4000000
set_option linter.all false
set_option maxHeartbeats 4000000
namespace G
open PySem PySem.Spec PyProof.Rows L2
/-! ### what is kept: plain -/
def lk (ps : List Int) (y : Int) : V := .int (ps.getD y.toNat 0)
theorem lk_of {ps : List Int} {y c : Int} (h : ps[y.toNat]? = some c) : V.int c = lk ps y := by unfold lk; rw [List.getD_eq_getElem?_getD, h]; rfl
structure KA (ps : List Int) (k : List (Key × V)) (B : Int → Prop) : Prop where
  yes : ∀ i, B i → valV k (.inl i : Key) = some (lk ps i)
  no : ∀ i, ¬ B i → valV k (.inl i : Key) = none
theorem KA.iff {ps : List Int} {k : List (Key × V)} {B C : Int → Prop} (h : KA ps k B) (e : ∀ i, B i ↔ C i) : KA ps k C := ⟨fun i c => h.yes i ((e i).mpr c), fun i c => h.no i fun b => c ((e i).mp b)⟩
theorem KA.nil {ps : List Int} : KA ps [] (fun _ => False) := ⟨fun _ h => h.elim, fun _ _ => rfl⟩
theorem KA.some {ps : List Int} {k : List (Key × V)} {B : Int → Prop} (h : KA ps k B) {i : Int} : valV k (.inl i : Key) ≠ none ↔ B i := by
  by_cases b : B i
  · rw [h.yes i b]; simp [b]
  · rw [h.no i b]; simp [b]
theorem KA.cam {ps : List Int} {k : List (Key × V)} {B : Int → Prop} {t w y : Int} (h : KA ps k B) (h0 : t ≤ y) (h1 : y < t + w) : KA ps (camK t w k y (lk ps y)) (fun i => B i ∨ i = y) := by
  unfold camK
  by_cases e : valV k (.inl y : Key) = none
  · rw [if_pos ⟨⟨h0, h1⟩, e⟩]
    refine ⟨fun i hi => ?_, fun i hi => ?_⟩
    · rw [valV_put]
      by_cases z : i = y
      · rw [if_pos (by rw [z]), z]
      · rw [if_neg (fun q => z (Sum.inl.inj q))]
        exact h.yes i (hi.resolve_right z)
    · rw [valV_put, if_neg (fun q => hi (.inr (Sum.inl.inj q)))]
      exact h.no i fun b => hi (.inl b)
  · rw [if_neg (fun q => e q.2)]
    have by_ : B y := h.some.mp e
    exact h.iff fun i => ⟨.inl, fun q => q.elim id fun z => z ▸ by_⟩
theorem len_cam {t w y : Int} {k : List (Key × V)} {v : V} : (camK t w k y v).length ≤ k.length + 1 := by
  unfold camK
  split
  · exact length_putK _ _ _
  · omega
def feed (ps : List Int) (t w : Int) (k : List (Key × V)) (ys : List Int) : List (Key × V) := ys.foldl (fun k y => camK t w k y (lk ps y)) k
theorem feed_snoc {ps : List Int} {t w : Int} {k : List (Key × V)} {ys : List Int} {y : Int} : feed ps t w k (ys ++ [y]) = camK t w (feed ps t w k ys) y (lk ps y) := by unfold feed; rw [List.foldl_append]; rfl
theorem KA.feed {ps : List Int} {t w : Int} : ∀ {ys : List Int} {k : List (Key × V)} {B : Int → Prop}, KA ps k B → (∀ y ∈ ys, t ≤ y ∧ y < t + w) → KA ps (feed ps t w k ys) (fun i => B i ∨ i ∈ ys)
  | [], k, B, h, _ => h.iff fun i => by simp
  | y :: r, k, B, h, hy => by
    have h1 := (h.cam (hy y (by simp)).1 (hy y (by simp)).2).feed (ys := r) fun z hz => hy z (by simp [hz])
    exact h1.iff fun i => by simp [or_assoc]
theorem len_feed {ps : List Int} {t w : Int} : ∀ {ys : List Int} {k : List (Key × V)}, (feed ps t w k ys).length ≤ k.length + ys.length
  | [], k => Nat.le_refl _
  | y :: r, k => by
    have h := len_feed (ps := ps) (t := t) (w := w) (ys := r) (k := camK t w k y (lk ps y))
    have h2 := len_cam (t := t) (w := w) (y := y) (k := k) (v := lk ps y)
    show (feed ps t w (camK t w k y (lk ps y)) r).length ≤ _
    rw [List.length_cons]
    omega
/-- what was met at all -/
def HA (hv : List (Key × V)) (A : Int → Prop) : Prop := ∀ i, valV hv (.inl i : Key) ≠ none ↔ A i
def mark (hv : List (Key × V)) (ys : List Int) : List (Key × V) := ys.foldl (fun k y => putK k (.inl y) (.bl true)) hv
theorem mark_snoc {k : List (Key × V)} {ys : List Int} {y : Int} : mark k (ys ++ [y]) = putK (mark k ys) (.inl y) (.bl true) := by unfold mark; rw [List.foldl_append]; rfl
theorem HA.put {hv : List (Key × V)} {A : Int → Prop} {y : Int} {v : V} (h : HA hv A) : HA (putK hv (.inl y) v) (fun i => A i ∨ i = y) := fun i => by
  rw [valV_put]
  by_cases z : i = y
  · rw [if_pos (by rw [z])]; simp [z]
  · rw [if_neg (fun q => z (Sum.inl.inj q)), h i]; simp [z]
theorem HA.mark : ∀ {ys : List Int} {hv : List (Key × V)} {A : Int → Prop}, HA hv A → HA (mark hv ys) (fun i => A i ∨ i ∈ ys)
  | [], hv, A, h => fun i => (h i).trans (by simp)
  | y :: r, hv, A, h => fun i => by
    have := HA.mark (ys := r) (h.put (y := y) (v := .bl true)) i
    rw [show G.mark hv (y :: r) = G.mark (putK hv (.inl y) (.bl true)) r from rfl, this]
    simp [or_assoc]
theorem len_mark : ∀ {ys : List Int} {k : List (Key × V)}, (mark k ys).length ≤ k.length + ys.length
  | [], k => Nat.le_refl _
  | y :: r, k => by
    have h := len_mark (ys := r) (k := putK k (.inl y) (.bl true))
    have h2 := length_putK k (.inl y : Key) (.bl true)
    show (mark (putK k (.inl y) (.bl true)) r).length ≤ _
    rw [List.length_cons]
    omega
theorem Reach.uniq {k k' : List (Key × V)} {t g g' : Int} (r : Reach k t g) (r' : Reach k' t g') (e : ∀ i, t ≤ i → (valV k (.inl i : Key) ≠ none ↔ valV k' (.inl i : Key) ≠ none)) : g = g' := by
  rcases Int.lt_trichotomy g g' with h | h | h
  · exact absurd r.no (((e g r.le).mpr (r'.all g r.le h)))
  · exact h
  · exact absurd r'.no (((e g' r'.le).mp (r.all g' r'.le h)))
theorem len_dropK {k : List (Key × V)} {i : Key} : (dropK k i).length ≤ k.length := List.length_filter_le _ _
theorem valV_drop (k : Key) (j : Key) : ∀ kvs : List (Key × V), valV (dropK kvs k) j = if j = k then none else valV kvs j
  | [] => by simp [dropK, valV]
  | p :: r => by
    have ih := valV_drop k j r
    by_cases e : p.1 = k
    · rw [dropK_pos e, ih]
      by_cases z : j = k
      · rw [if_pos z, if_pos z]
      · rw [if_neg z, if_neg z, valV_neg (fun q => z (q.symm.trans e))]
    · rw [dropK_neg e]
      by_cases z : p.1 = j
      · rw [valV_pos z, valV_pos z, if_neg (fun q => e (z.trans q))]
      · rw [valV_neg z, valV_neg z, ih]
theorem takeN_KA {ps : List Int} : ∀ (d m : Nat) {t g : Int} {k : List (Key × V)} {B : Int → Prop}, (g - t).toNat = d → d ≤ m → KA ps k B → Reach k t g → 0 ≤ t → g ≤ ps.length →
    ∃ k', takeN m t k = (((ps.drop t.toNat).take (g.toNat - t.toNat)).map V.int, g, k') ∧ KA ps k' (fun i => B i ∧ ¬ (t ≤ i ∧ i < g)) ∧ k'.length ≤ k.length
  | 0, m, t, g, k, B, hd, hm, h, r, h0, hg => by
    have e : t = g := by have := r.le; omega
    subst e
    refine ⟨k, ?_, h.iff fun i => ⟨fun b => ⟨b, by omega⟩, fun b => b.1⟩, Nat.le_refl _⟩
    rw [takeN_none r.no, Nat.sub_self]
    rfl
  | d + 1, 0, t, g, k, B, hd, hm, h, r, h0, hg => absurd hm (by omega)
  | d + 1, m + 1, t, g, k, B, hd, hm, h, r, h0, hg => by
    have hlt : t < g := by omega
    have ht := r.all t (Int.le_refl _) hlt
    have bt : B t := h.some.mp ht
    have ev := h.yes t bt
    have h' : KA ps (dropK k (.inl t)) (fun i => B i ∧ i ≠ t) := ⟨fun i hi => by rw [valV_drop, if_neg (fun q => hi.2 (Sum.inl.inj q))]; exact h.yes i hi.1, fun i hi => by
      rw [valV_drop]
      by_cases z : i = t
      · rw [if_pos (by rw [z])]
      · rw [if_neg (fun q => z (Sum.inl.inj q))]; exact h.no i fun b => hi ⟨b, z⟩⟩
    have r' : Reach (dropK k (.inl t)) (t + 1) g := ⟨by omega, fun i a b => by rw [valV_drop, if_neg (fun q => by have := Sum.inl.inj q; omega)]; exact r.all i (by omega) b, by
      rw [valV_drop, if_neg (fun q => by have := Sum.inl.inj q; omega)]; exact r.no⟩
    obtain ⟨k', e1, e2, e3⟩ := takeN_KA d m (t := t + 1) (by omega) (by omega) h' r' (by omega) hg
    refine ⟨k', ?_, e2.iff fun i => ⟨fun b => ⟨b.1.1, by have := b.1.2; have := b.2; omega⟩, fun b => ⟨⟨b.1, by have := b.2; omega⟩, by have := b.2; omega⟩⟩, Nat.le_trans e3 len_dropK⟩
    rw [takeN_some ev, e1]
    have hl : t.toNat < ps.length := by omega
    have e4 : ps.drop t.toNat = ps[t.toNat] :: ps.drop (t + 1).toNat := by
      rw [List.drop_eq_getElem_cons hl, show (t + 1).toNat = t.toNat + 1 by omega]
    rw [e4, show g.toNat - t.toNat = (g.toNat - (t + 1).toNat) + 1 by omega, List.take_succ_cons, List.map_cons]
    have : lk ps t = V.int ps[t.toNat] := (lk_of (List.getElem?_eq_getElem hl)).symm
    rw [this]
/-- between two turns of the law -/
structure J (ps : List Int) (w done : Int) (k1 k2 hv : List (Key × V)) (A : Int → Prop) : Prop where
  d0 : 0 ≤ done
  d1 : done ≤ ps.length
  a1 : KA ps k1 (fun i => done ≤ i ∧ A i)
  a2 : KA ps k2 (fun i => done ≤ i ∧ A i)
  h : HA hv A
  r : ∀ i, A i → 0 ≤ i ∧ i < ps.length ∧ i < done + w
end G

set_option linter.all false
set_option maxRecDepth 100000
set_option maxHeartbeats 4000000
namespace G
open PySem PySem.Spec PyProof.Rows L2
/-- what the taker of a window w has behind a turn of the law -/
theorem J_start {ps : List Int} {w : Int} : J ps w 0 [] [] [] (fun _ => False) :=
  ⟨Int.le_refl _, by omega, KA.nil.iff fun i => by simp, KA.nil.iff fun i => by simp, fun i => by simp [valV], fun i h => h.elim⟩
theorem turn_facts {ps : List Int} {w dn z : Int} {k1 k2 hv : List (Key × V)} {A : Int → Prop} {xs ys1 ys2 : List Int} (hw : 1 ≤ w) (J0 : J ps w dn k1 k2 hv A) (hb : ∀ x ∈ xs, dn ≤ x ∧ x < dn + w ∧ x < ps.length) (h1 : ∀ x, x ∈ ys1 ↔ x ∈ xs) (h2 : ∀ x, x ∈ ys2 ↔ x ∈ xs) (r : Reach (mark hv xs) dn z) :
    HA (mark hv xs) (fun i => A i ∨ i ∈ xs) ∧ KA ps (feed ps dn w k1 ys1) (fun i => dn ≤ i ∧ (A i ∨ i ∈ xs)) ∧ KA ps (feed ps dn w k2 ys2) (fun i => dn ≤ i ∧ (A i ∨ i ∈ xs)) ∧ Reach (feed ps dn w k1 ys1) dn z ∧ Reach (feed ps dn w k2 ys2) dn z ∧ z ≤ dn + w ∧ z ≤ ps.length ∧
    ∀ i, (A i ∨ i ∈ xs) → 0 ≤ i ∧ i < ps.length ∧ i < dn + w := by
  have hA := J0.h.mark (ys := xs)
  have hA2 : ∀ i, (A i ∨ i ∈ xs) → 0 ≤ i ∧ i < ps.length ∧ i < dn + w := fun i hi => by
    rcases hi with hi | hi
    · exact J0.r i hi
    · have := hb i hi; have := J0.d0; exact ⟨by omega, by omega, by omega⟩
  have f : ∀ {k : List (Key × V)} {ys : List Int}, KA ps k (fun i => dn ≤ i ∧ A i) → (∀ x, x ∈ ys ↔ x ∈ xs) → KA ps (feed ps dn w k ys) (fun i => dn ≤ i ∧ (A i ∨ i ∈ xs)) := fun {k ys} a e =>
    (a.feed (ys := ys) fun y hy => ⟨(hb y ((e y).mp hy)).1, (hb y ((e y).mp hy)).2.1⟩).iff fun i => by
      rw [e i]
      constructor
      · rintro (h | h)
        · exact ⟨h.1, .inl h.2⟩
        · exact ⟨(hb i h).1, .inr h⟩
      · rintro ⟨h, q | q⟩
        · exact .inl ⟨h, q⟩
        · exact .inr q
  have g : ∀ {k : List (Key × V)}, KA ps k (fun i => dn ≤ i ∧ (A i ∨ i ∈ xs)) → Reach k dn z := fun {k} a =>
    ⟨r.le, fun i h1 h2 => a.some.mpr ⟨h1, (hA i).mp (r.all i h1 h2)⟩, a.no z fun b => (hA z).mpr b.2 r.no⟩
  have f1 := f J0.a1 h1
  have f2 := f J0.a2 h2
  have hz : ∀ b : Int, dn ≤ b → (∀ i, (A i ∨ i ∈ xs) → i < b) → z ≤ b := fun b hb' hi => by
    by_cases q : z ≤ b
    · exact q
    · exact absurd (hi b ((hA b).mp (r.all b hb' (by omega)))) (by omega)
  exact ⟨hA, f1, f2, g f1, g f2, hz _ (by omega) fun i hi => (hA2 i hi).2.2, hz _ J0.d1 fun i hi => (hA2 i hi).2.1, hA2⟩
def rng (z : Int) (j : Nat) : List Int := (List.range j).map fun i => z + (i : Nat)
theorem rng_snoc {z : Int} {j : Nat} : rng z (j + 1) = rng z j ++ [z + (j : Nat)] := by unfold rng; rw [List.range_succ, List.map_append]; rfl
theorem len_rng {z : Int} {j : Nat} : (rng z j).length = j := by unfold rng; rw [List.length_map, List.length_range]
theorem mem_rng {z x : Int} {j : Nat} : x ∈ rng z j ↔ z ≤ x ∧ x < z + j := by
  unfold rng
  rw [List.mem_map]
  constructor
  · rintro ⟨i, hi, rfl⟩
    have := List.mem_range.mp hi
    omega
  · rintro ⟨h1, h2⟩
    exact ⟨(x - z).toNat, List.mem_range.mpr (by omega), by omega⟩
theorem rest_facts {ps : List Int} {w dn z : Int} {k1 k2 : List (Key × V)} {A : Int → Prop} (K1 : KA ps k1 (fun i => (dn ≤ i ∧ A i) ∧ ¬ (dn ≤ i ∧ i < z))) (K2 : KA ps k2 (fun i => (dn ≤ i ∧ A i) ∧ ¬ (dn ≤ i ∧ i < z))) (r : ∀ i, A i → 0 ≤ i ∧ i < ps.length ∧ i < dn + w)
    (hd : dn ≤ ps.length) (hle : dn ≤ z) (hz1 : z ≤ dn + w) (hz2 : z ≤ ps.length) (hw : 1 ≤ w) :
    KA ps (feed ps z w k1 (rng z (min (ps.length : Int) (z + w) - z).toNat)) (fun i => z ≤ i ∧ i < min (ps.length : Int) (z + w)) ∧ KA ps (feed ps z w k2 (rng z (min (ps.length : Int) (z + w) - z).toNat)) (fun i => z ≤ i ∧ i < min (ps.length : Int) (z + w)) ∧
    Reach (feed ps z w k1 (rng z (min (ps.length : Int) (z + w) - z).toNat)) z (min (ps.length : Int) (z + w)) ∧ Reach (feed ps z w k2 (rng z (min (ps.length : Int) (z + w) - z).toNat)) z (min (ps.length : Int) (z + w)) := by
  have f : ∀ {k : List (Key × V)}, KA ps k (fun i => (dn ≤ i ∧ A i) ∧ ¬ (dn ≤ i ∧ i < z)) → KA ps (feed ps z w k (rng z (min (ps.length : Int) (z + w) - z).toNat)) (fun i => z ≤ i ∧ i < min (ps.length : Int) (z + w)) := fun {k} K =>
    (K.feed (ys := rng z (min (ps.length : Int) (z + w) - z).toNat) fun y hy => by have := mem_rng.mp hy; omega).iff fun i => by
      rw [mem_rng]
      constructor
      · rintro (h | h)
        · have := r i h.1.2; omega
        · omega
      · intro h
        exact .inr (by omega)
  have g : ∀ {k : List (Key × V)}, KA ps k (fun i => z ≤ i ∧ i < min (ps.length : Int) (z + w)) → Reach k z (min (ps.length : Int) (z + w)) := fun {k} K => ⟨by omega, fun i a b => K.some.mpr ⟨a, b⟩, K.no _ fun h => by omega⟩
  exact ⟨f K1, f K2, g (f K1), g (f K2)⟩
theorem mid_facts {ps : List Int} {w dn z : Int} {k1 k2 k1' k2' hv hv' : List (Key × V)} {A A' : Int → Prop} (J0 : J ps w dn k1 k2 hv A) (h : HA hv' A') (K1 : KA ps k1' (fun i => (dn ≤ i ∧ A' i) ∧ ¬ (dn ≤ i ∧ i < z))) (K2 : KA ps k2' (fun i => (dn ≤ i ∧ A' i) ∧ ¬ (dn ≤ i ∧ i < z)))
    (r : ∀ i, A' i → 0 ≤ i ∧ i < ps.length ∧ i < dn + w) (hle : dn ≤ z) (hz2 : z ≤ ps.length) : J ps w z k1' k2' hv' A' := by
  have := J0.d0
  have e : ∀ i, ((dn ≤ i ∧ A' i) ∧ ¬ (dn ≤ i ∧ i < z)) ↔ (z ≤ i ∧ A' i) := fun i => ⟨fun b => ⟨by omega, b.1.2⟩, fun b => ⟨⟨by omega, b.2⟩, by omega⟩⟩
  exact ⟨by omega, hz2, K1.iff e, K2.iff e, h, fun i hi => by have := r i hi; omega⟩
theorem end_facts {ps : List Int} {w dn z : Int} {k1 k2 k3 k4 hv hv' : List (Key × V)} {A A' : Int → Prop} (J0 : J ps w dn k1 k2 hv A) (h : HA hv' A') (K1 : KA ps k3 (fun i => (z ≤ i ∧ i < min (ps.length : Int) (z + w)) ∧ ¬ (z ≤ i ∧ i < min (ps.length : Int) (z + w)))) (K2 : KA ps k4 (fun i => (z ≤ i ∧ i < min (ps.length : Int) (z + w)) ∧ ¬ (z ≤ i ∧ i < min (ps.length : Int) (z + w))))
    (r : ∀ i, A' i → 0 ≤ i ∧ i < ps.length ∧ i < dn + w) (hle : dn ≤ z) (hz2 : z ≤ ps.length) (hw : 1 ≤ w) : J ps w (min (ps.length : Int) (z + w)) k3 k4 hv' A' := by
  have := J0.d0
  have e : ∀ i, ((z ≤ i ∧ i < min (ps.length : Int) (z + w)) ∧ ¬ (z ≤ i ∧ i < min (ps.length : Int) (z + w))) ↔ (min (ps.length : Int) (z + w) ≤ i ∧ A' i) := fun i => ⟨fun b => absurd b.1 b.2, fun b => by have := r i b.2; omega⟩
  exact ⟨by omega, by omega, K1.iff e, K2.iff e, h, fun i hi => by have := r i hi; omega⟩
theorem reach_no {k : List (Key × V)} {t g : Int} (r : Reach k t g) (h : valV k (.inl t : Key) = none) : g = t := by
  by_cases e : g = t
  · exact e
  · exact absurd h (r.all t (Int.le_refl _) (by have := r.le; omega))

def spLaw (K : PySem.W.Frag) : Sp := fun vs H Q _ => ∃ (a : Addr) (ns : List Int), vs = [.ref a] ∧ SqL K H a (ns.map V.int) ∧ ns.length ≤ 63 ∧ ∀ H', Q (.bl true) H'
section
variable {P : Program} {w : World} {K : PySem.W.Frag} {mg : Str → Option Value} {base : Heap}
abbrev s_law : Stmt := (topS 10)
theorem sc_law : FnScope ["_law_script", "_law_hold", "_law_wide_here", "_law_pieces", "_law_one", "_law_other", "_law_done", "_law_have", "_law_turn", "_law_top", "_law_places", "_law_place", "_law_got", "_law_due", "_law_k"] ["_law_script"] (defScope s_law) := ⟨rfl, rfl, rfl, by decide +kernel, rfl, by decide +kernel, by decide +kernel⟩
theorem ok_law {f : Addr} {fd : FuncData} {C : Addr} (F : L2.Fun K "law" "law" s_law f fd) (cd : Cal P w K mg base CX0 1 "_law_draw" spDraw) (cv : Cal P w K mg base CX0 2 "_law_value" spValue) (cw : Cal P w K mg base CX0 2 "_law_wide" spWide) (cmx : Cal P w K mg base CX0 2 "_law_mixed" (spMixed K)) (ctk : Cal P w K mg base CX0 2 "_law_taken" (spTaken C)) (mk : MakK P w K mg base CX0 1 "Taker" C ["window"] (spTkInit C)) (mcame : Met P w K mg base CX0 1 C "came" (spCame C)) (mtold : Met P w K mg base CX0 1 C "told" (spTold C)) (z_len : mg "len" = none) (z_list : mg "list" = none) (z_range : mg "range" = none) (z_min : mg "min" = none) (z_max : mg "max" = none) : FnOk P w K mg base CX0 4 f fd ["_law_script"] (spLaw K) := by
  refine F.ok sc_law (fun vs H Q E h => ?_) (fun cdv A outer s H0 vs Q E hr h => ?_)
  · obtain ⟨a, ns, rfl, hs, hl, k⟩ := h
    rfl
  · obtain ⟨a, ns, rfl, hs, hl, k⟩ := h
    have hu := hu_of hr
    have S := Sep.of0 (H := H0)
    refine ⟨_, pss_cons (ps_set (i := 1) sc_law.nd rfl (.inr rfl) (pe_lst1 (pa_cons (pe_int) (pa_cons (pe_ifExp (pt_cmpR (op_neDK K hr.units) (pv 0) (pe_lst1 pa_nil) (nomark _)) (pe_callTy (cl_listK K) (by rfl) z_list (by decide +kernel) (pa_cons (pv 0) pa_nil)) (pe_lst1 (pa_cons (pe_int) pa_nil))) pa_nil))))
      (pss_cons (ps_set (i := 2) sc_law.nd rfl (.inl rfl) (pe_c cw hr (by decide) (by rfl) pass0 (pa_cons (pv 1) pa_nil)))
      (pss_cons (ps_set (i := 3) sc_law.nd rfl (.inr rfl) (pe_lc (own := [("_law_k", 14)]) (g := gName 14) rfl sc_law.nd (pi_range1 (by rfl) z_range (pa_cons (pe_op op_add (pe_int) (pe_c cd hr (by decide) (by rfl) pass0 (pa_cons (pv 1) (pa_cons (pe_ix (ix_listK K) (pe_lst1 (pa_cons (pe_int) (pa_cons (pe_int) pa_nil))) (pe_c cd hr (by decide) (by rfl) pass0 (pa_cons (pv 1) (pa_cons (pe_int) pa_nil))) (fun _ _ => rfl)) pa_nil)))) pa_nil)) (blkOk_by (N := ["_law_script", "_law_hold", "_law_wide_here", "_law_pieces", "_law_one", "_law_other", "_law_done", "_law_have", "_law_turn", "_law_top", "_law_places", "_law_place", "_law_got", "_law_due", "_law_k"]) (sc := defScope s_law) (by decide +kernel)) (fun _ _ _ _ _ => pg_name (i := 14) sc_law.nd rfl (Or.inl rfl)) (fun _ _ _ _ _ => pts_nil) (fun _ _ _ _ _ => pe_c cv hr (by decide) (by rfl) pass0 (pa_cons (pv 1) pa_nil))))
      (pss_cons (ps_par (i := 4) (j := 5) rfl sc_law.nd rfl rfl (by decide) rfl rfl (pa_cons (pe_mkK mk hr (by decide) (by rfl) pass0 (pk_cons (pv 2) pk_nil)) (pa_cons (pe_mkK mk hr (by decide) (by rfl) pass0 (pk_cons (pv 2) pk_nil)) pa_nil)) rfl)
      (pss_cons (ps_asg (pe_tup1 (pa_cons (pe_int) (pa_cons (pe_dnewK) pa_nil))) (pg_tup rfl (pgs_cons (pg_name (i := 6) sc_law.nd rfl (.inr rfl)) (pgs_cons (pg_name (i := 7) sc_law.nd rfl (.inl rfl)) (pgs_nil)))))
      (pss_cons (ps_for PassesOwn.never rfl (pi_range1 (by rfl) z_range (pa_cons (pe_int) pa_nil)) (pg_name (i := 8) sc_law.nd rfl (.inl rfl)) (pss_cons (ps_set (i := 9) sc_law.nd rfl (.inr rfl) (pe_callB (cl_min rfl) (by rfl) z_min (by decide +kernel) (pa_cons (pe_callB (cl_lenK K) (by rfl) z_len PySem.boot_len (pa_cons (pv 3) pa_nil)) (pa_cons (pe_op op_add (pv 6) (pv 2)) pa_nil))))
      (pss_cons (ps_setLc (i := 10) (own := [("_law_k", 14)]) (g := gName 14) rfl sc_law.nd rfl rfl (sw_true rfl rfl rfl (by decide +kernel)) (pi_range1 (by rfl) z_range (pa_cons (pe_callB (cl_max rfl) (by rfl) z_max (by decide +kernel) (pa_cons (pe_int) (pa_cons (pe_callB (cl_min rfl) (by rfl) z_min (by decide +kernel) (pa_cons (pe_int) (pa_cons (pe_callB (cl_lenK K) (by rfl) z_len PySem.boot_len (pa_cons (pv 0) pa_nil)) pa_nil))) pa_nil))) pa_nil)) (blkOk_by (N := ["_law_script", "_law_hold", "_law_wide_here", "_law_pieces", "_law_one", "_law_other", "_law_done", "_law_have", "_law_turn", "_law_top", "_law_places", "_law_place", "_law_got", "_law_due", "_law_k"]) (sc := defScope s_law) (by decide +kernel)) (fun _ _ _ _ _ => pg_name (i := 14) sc_law.nd rfl (Or.inl rfl)) (fun _ _ _ _ _ => pts_nil) (fun _ _ _ _ _ => pe_op op_add (pv 6) (pe_c cd hr (by decide) (by rfl) pass0 (pa_cons (pv 1) (pa_cons (pe_callB (cl_max rfl) (by rfl) z_max (by decide +kernel) (pa_cons (pe_int) (pa_cons (pe_op op_sub (pv 9) (pv 6)) pa_nil))) pa_nil)))))
      (pss_cons (ps_setLc (i := 10) (own := [("_law_place", 11)]) (g := gName 11) rfl sc_law.nd rfl rfl (sw_true rfl rfl rfl (by decide +kernel)) (pi_listK K (pv 10)) (blkOk_by (N := ["_law_script", "_law_hold", "_law_wide_here", "_law_pieces", "_law_one", "_law_other", "_law_done", "_law_have", "_law_turn", "_law_top", "_law_places", "_law_place", "_law_got", "_law_due", "_law_k"]) (sc := defScope s_law) (by decide +kernel)) (fun _ _ _ _ _ => pg_name (i := 11) sc_law.nd rfl (Or.inl rfl)) (fun _ _ _ _ _ => pts_one (pt_cmpR op_lt (pv 11) (pe_callB (cl_lenK K) (by rfl) z_len PySem.boot_len (pa_cons (pv 3) pa_nil)) (nomark _))) (fun _ _ _ _ _ => pv 11))
      (pss_cons (ps_for PassesOwn.never rfl (pi_listK K (pe_c cmx hr (by decide) (by rfl) pass0 (pa_cons (pv 1) (pa_cons (pv 10) pa_nil)))) (pg_name (i := 11) sc_law.nd rfl (.inl rfl)) (pss_one (ps_expr (pe_mt mcame hr (by decide) pass0 (pv 4) (pa_cons (pv 11) (pa_cons (pe_ix (ix_listK K) (pv 3) (pv 11) (fun _ _ => rfl)) pa_nil))))))
      (pss_cons (ps_for PassesOwn.never rfl (pi_listK K (pe_c cmx hr (by decide) (by rfl) pass0 (pa_cons (pv 1) (pa_cons (pv 10) pa_nil)))) (pg_name (i := 11) sc_law.nd rfl (.inl rfl)) (pss_one (ps_expr (pe_mt mcame hr (by decide) pass0 (pv 5) (pa_cons (pv 11) (pa_cons (pe_ix (ix_listK K) (pv 3) (pv 11) (fun _ _ => rfl)) pa_nil))))))
      (pss_cons (ps_for PassesOwn.never rfl (pi_listK K (pv 10)) (pg_name (i := 11) sc_law.nd rfl (.inl rfl)) (pss_one (ps_dput1 hu (pv 7) (pv 11) (pe_bl) rfl)))
      (pss_cons (ps_set (i := 12) sc_law.nd rfl (.inl rfl) (pv 6))
      (pss_cons (ps_while PassesOwn.never (pt_cmp (pc_din1 hu (pv 12) (pv 7))) (pss_one (ps_aug (i := 12) sc_law.nd rfl (.inl rfl) (pe_int) ip_add)))
      (pss_cons (ps_if ((pw_or (pt_cmpR (op_neDK K hr.units) (pe_mt0 mtold hr (by decide) pass0 (pv 4)) (pe_tup1 (pa_cons (pv 12) (pa_cons (pe_op op_add (pv 6) (pv 2)) pa_nil))) (nomark _)) (pw_or1 (pt_cmpR (op_neDK K hr.units) (pe_mt0 mtold hr (by decide) pass0 (pv 5)) (pe_mt0 mtold hr (by decide) pass0 (pv 4)) (nomark _)))).pt) (pss_one (ps_ret (pe_bl))) (pss_nil))
      (pss_cons (ps_set (i := 13) sc_law.nd rfl (.inl rfl) (pe_slice (sl_listK K) (pv 3) (po_some (pv 6)) (po_some (pv 12))))
      (pss_cons (ps_if ((pw_or (pt_cmpR (op_neDK K hr.units) (pe_c ctk hr (by decide) (by rfl) pass0 (pa_cons (pv 4) (pa_cons (pe_int) pa_nil))) (pv 13) (nomark _)) (pw_or (pt_cmpR (op_neDK K hr.units) (pe_c ctk hr (by decide) (by rfl) pass0 (pa_cons (pv 5) (pa_cons (pe_int) pa_nil))) (pv 13) (nomark _)) (pw_or1 (pt_cmpR (op_neDK K hr.units) (pe_mt0 mtold hr (by decide) pass0 (pv 4)) (pe_tup1 (pa_cons (pv 12) (pa_cons (pe_op op_add (pv 12) (pv 2)) pa_nil))) (nomark _))))).pt) (pss_one (ps_ret (pe_bl))) (pss_nil))
      (pss_cons (ps_set (i := 6) sc_law.nd rfl (.inr rfl) (pv 12))
      (pss_one (ps_if (pt_cmpR op_eq (pv 8) (pe_int) (nomark _)) (pss_cons (ps_for PassesOwn.never rfl (pi_range2 (by rfl) z_range (pa_cons (pv 6) (pa_cons (pe_callB (cl_min rfl) (by rfl) z_min (by decide +kernel) (pa_cons (pe_callB (cl_lenK K) (by rfl) z_len PySem.boot_len (pa_cons (pv 3) pa_nil)) (pa_cons (pe_op op_add (pv 6) (pv 2)) pa_nil))) pa_nil))) (pg_name (i := 11) sc_law.nd rfl (.inl rfl)) (pss_cons (ps_expr (pe_mt mcame hr (by decide) pass0 (pv 4) (pa_cons (pv 11) (pa_cons (pe_ix (ix_listK K) (pv 3) (pv 11) (fun _ _ => rfl)) pa_nil))))
      (pss_one (ps_expr (pe_mt mcame hr (by decide) pass0 (pv 5) (pa_cons (pv 11) (pa_cons (pe_ix (ix_listK K) (pv 3) (pv 11) (fun _ _ => rfl)) pa_nil)))))))
      (pss_cons (ps_set (i := 6) sc_law.nd rfl (.inr rfl) (pe_callB (cl_min rfl) (by rfl) z_min (by decide +kernel) (pa_cons (pe_callB (cl_lenK K) (by rfl) z_len PySem.boot_len (pa_cons (pv 3) pa_nil)) (pa_cons (pe_op op_add (pv 6) (pv 2)) pa_nil))))
      (pss_one (ps_if ((pw_or (pt_cmpR (op_neDK K hr.units) (pe_c ctk hr (by decide) (by rfl) pass0 (pa_cons (pv 4) (pa_cons (pe_int) pa_nil))) (pe_slice (sl_listK K) (pv 3) (po_some (pv 12)) (po_some (pv 6))) (nomark _)) (pw_or1 (pt_cmpR (op_neDK K hr.units) (pe_c ctk hr (by decide) (by rfl) pass0 (pa_cons (pv 5) (pa_cons (pe_int) pa_nil))) (pe_slice (sl_listK K) (pv 3) (po_some (pv 12)) (po_some (pv 6))) (nomark _)))).pt) (pss_one (ps_ret (pe_bl))) (pss_nil))))) (pss_nil))))))))))))))))
      (pss_one (ps_ret (pe_cmpR (op_eqDK K hr.units) (pe_mt0 mtold hr (by decide) pass0 (pv 5)) (pe_mt0 mtold hr (by decide) pass0 (pv 4)) (nomark _))))))))), ?_⟩
    rw [show start ["_law_script", "_law_hold", "_law_wide_here", "_law_pieces", "_law_one", "_law_other", "_law_done", "_law_have", "_law_turn", "_law_top", "_law_places", "_law_place", "_law_got", "_law_due", "_law_k"] [V.ref a] = [some (V.ref a), none, none, none, none, none, none, none, none, none, none, none, none, none, none] from rfl]
    try dsimp only [tSeq, tAsg, gName, tOp, tUn, tCB, tCons, tNil, tCall, tRet, tRetN, tDrop, tTest, tB, tC, tNext, tAugS, tAug, sFld1, sFldAug1, tMeth1, tMake, tMakeK1, tSl, tPart, tNoPart, sDPut1, tDPop, tBM, tBM0, tPar, gSub, tChain, tNot, tNotV, iList1, iTup1, iRng1, iRng2, List.set_cons_zero, List.set_cons_succ]
    refine x_ifx (fun v H' => ∃ (q : Addr) (cs : List Int), v = .ref q ∧ Hold 0 cs ∧ Sep H0 [] H' [(2, q, .lst (cs.map V.int))]) ?_ (fun KK => ?_)
    · rintro v H ⟨hq, cs, rfl, hh, S⟩
      refine x_lst S (by exact Nat.le_of_ble_eq_true rfl) (fun L1 H S => ?_)
      try dsimp only [tSeq, tAsg, gName, tOp, tUn, tCB, tCons, tNil, tCall, tRet, tRetN, tDrop, tTest, tB, tC, tNext, tAugS, tAug, sFld1, sFldAug1, tMeth1, tMake, tMakeK1, tSl, tPart, tNoPart, sDPut1, tDPop, tBM, tBM0, tPar, gSub, tChain, tNot, tNotV, iList1, iTup1, iRng1, iRng2, List.set_cons_zero, List.set_cons_succ]
      refine x_var (by exact rfl) ?_
      refine c_wide S 0 1 (by exact rfl) (by exact rfl) hh (by omega) (fun w1 n1 cs1 H w1a w1b hn1 hh S => ?_)
      simp only [List.set_cons_zero, List.set_cons_succ] at S
      try dsimp only [tSeq, tAsg, gName, tOp, tUn, tCB, tCons, tNil, tCall, tRet, tRetN, tDrop, tTest, tB, tC, tNext, tAugS, tAug, sFld1, sFldAug1, tMeth1, tMake, tMakeK1, tSl, tPart, tNoPart, sDPut1, tDPop, tBM, tBM0, tPar, gSub, tChain, tNot, tNotV, iList1, iTup1, iRng1, iRng2, List.set_cons_zero, List.set_cons_succ]
      refine x_lc ?_
      try dsimp only [tOp, tUn, tCB, tCons, tNil, tCall, tC, tMeth1, tMake, tMakeK1, tSl, tPart, tNoPart, tDPop, tChain, tNotV, iList1, iTup1, iRng1, iRng2]
      refine x_var (by exact rfl) ?_
      refine x_lst S (by exact Nat.le_of_ble_eq_true rfl) (fun L2 H S => ?_)
      refine x_var (by exact rfl) ?_
      refine c_draw S 1 2 (by exact rfl) (by exact rfl) hh (by first | omega | decide | (simp only [len_insAt, List.length_map, List.length_append, List.length_cons, List.length_nil, List.length_take, List.length_drop] at *; omega)) (by first | omega | decide | (simp only [len_insAt, List.length_map, List.length_append, List.length_cons, List.length_nil, List.length_take, List.length_drop] at *; omega)) (by first | omega | decide | (simp only [len_insAt, List.length_map, List.length_append, List.length_cons, List.length_nil, List.length_take, List.length_drop] at *; omega)) (fun r1 cs2 H r1a r1b hh S => ?_)
      simp only [List.set_cons_zero, List.set_cons_succ] at S
      refine x_ixI (cs := [7, 70]) S 0 (by exact rfl) (by omega) (by first | (show (_ : Int) < 2; omega) | omega) (fun v1 hv1 => ?_)
      have hv1 := List.mem_of_getElem? hv1
      simp only [List.mem_cons, List.not_mem_nil, or_false] at hv1
      refine c_draw S 1 2 (by exact rfl) (by exact rfl) hh (by first | omega | decide | (simp only [len_insAt, List.length_map, List.length_append, List.length_cons, List.length_nil, List.length_take, List.length_drop] at *; omega)) (by first | omega | decide | (simp only [len_insAt, List.length_map, List.length_append, List.length_cons, List.length_nil, List.length_take, List.length_drop] at *; omega)) (by first | omega | decide | (simp only [len_insAt, List.length_map, List.length_append, List.length_cons, List.length_nil, List.length_take, List.length_drop] at *; omega)) (fun r2 cs3 H r2a r2b hh S => ?_)
      simp only [List.set_cons_zero, List.set_cons_succ] at S
      refine x_I0 ?_
      refine ⟨_, rfl, by omega, by omega, ?_⟩
      refine lcR S (fun pc1 H S => ⟨fun i H1 => ∃ (n2 : Int) (cs2 ps : List Int), ps.length = i ∧ n2 ≤ 8 + 6 * i ∧ Hold n2 cs2 ∧ Sep H0 [] H1 [(2, pc1, .lst (ps.map V.int)), (2, L1, .lst [.int n2, .ref hq]), (2, hq, .lst (cs2.map V.int))], ?_, ?_, ?_⟩)
      · exact ⟨_, _, [], rfl, by omega, hh, S.sub [0, 2, 3]⟩
      · rintro i H hi ⟨n2, cs2, ps, hpl, hn2, hh, S⟩
        refine ⟨rfl, ?_⟩
        try dsimp only [wipe, tYes, tSeq, tAsg, gName, tOp, tUn, tCB, tCons, tNil, tCall, tRet, tRetN, tDrop, tTest, tB, tC, tNext, tAugS, tAug, sFld1, sFldAug1, tMeth1, tMake, tMakeK1, tSl, tPart, tNoPart, sDPut1, tDPop, tBM, tBM0, tPar, gSub, tChain, tNot, tNotV, iList1, iTup1, iRng1, iRng2, List.set_cons_zero, List.set_cons_succ]
        refine iteT ?_
        refine x_var (by exact rfl) ?_
        refine c_value S 1 2 (by exact rfl) (by exact rfl) hh (by omega) (fun r3 n2 cs4 H hn2 hh S => ?_)
        simp only [List.set_cons_zero, List.set_cons_succ] at S
        refine x_lcappI S 0 (by exact rfl) (by omega) (fun H S => ?_)
        exact ⟨_, _, ps ++ [_], by rw [List.length_append, hpl]; rfl, by omega, hh, S⟩
      · rintro H ⟨n2, cs2, ps, hpl, hn2, hh, S⟩
        try dsimp only [tSeq, tAsg, gName, tOp, tUn, tCB, tCons, tNil, tCall, tRet, tRetN, tDrop, tTest, tB, tC, tNext, tAugS, tAug, sFld1, sFldAug1, tMeth1, tMake, tMakeK1, tSl, tPart, tNoPart, sDPut1, tDPop, tBM, tBM0, tPar, gSub, tChain, tNot, tNotV, iList1, iTup1, iRng1, iRng2, List.set_cons_zero, List.set_cons_succ]
        try dsimp only [tSeq, tAsg, gName, tOp, tUn, tCB, tCons, tNil, tCall, tRet, tRetN, tDrop, tTest, tB, tC, tNext, tAugS, tAug, sFld1, sFldAug1, tMeth1, tMake, tMakeK1, tSl, tPart, tNoPart, sDPut1, tDPop, tBM, tBM0, tPar, gSub, tChain, tNot, tNotV, iList1, iTup1, iRng1, iRng2, List.set_cons_zero, List.set_cons_succ]
        refine x_var (by exact rfl) ?_
        refine c_mkTaker S (fun o1 xo1 d1 H S => ?_)
        refine x_var (by exact rfl) ?_
        refine c_mkTaker S (fun o2 xo2 d2 H S => ?_)
        refine ⟨_, _, rfl, ?_⟩
        try dsimp only [tSeq, tAsg, gName, tOp, tUn, tCB, tCons, tNil, tCall, tRet, tRetN, tDrop, tTest, tB, tC, tNext, tAugS, tAug, sFld1, sFldAug1, tMeth1, tMake, tMakeK1, tSl, tPart, tNoPart, sDPut1, tDPop, tBM, tBM0, tPar, gSub, tChain, tNot, tNotV, iList1, iTup1, iRng1, iRng2, List.set_cons_zero, List.set_cons_succ]
        refine x_dnew S (fun D1 H S => ?_)
        refine x_tup S (by exact Nat.le_of_ble_eq_true rfl) (fun U1 H S => ?_)
        refine ⟨_, _, rfl, S.st 0 rfl, rfl, _, _, rfl, _, _, rfl, rfl, ?_⟩
        try dsimp only [tSeq, tAsg, gName, tOp, tUn, tCB, tCons, tNil, tCall, tRet, tRetN, tDrop, tTest, tB, tC, tNext, tAugS, tAug, sFld1, sFldAug1, tMeth1, tMake, tMakeK1, tSl, tPart, tNoPart, sDPut1, tDPop, tBM, tBM0, tPar, gSub, tChain, tNot, tNotV, iList1, iTup1, iRng1, iRng2, List.set_cons_zero, List.set_cons_succ]
        refine x_for ?_
        try dsimp only [tOp, tUn, tCB, tCons, tNil, tCall, tC, tMeth1, tMake, tMakeK1, tSl, tPart, tNoPart, tDPop, tChain, tNotV, iList1, iTup1, iRng1, iRng2]
        refine ⟨_, rfl, by omega, by omega, ?_⟩
        refine forR (fun i σ H1 => ∃ (n : Int) (cs : List Int) (dn : Int) (k1 k2 hv : List (Key × V)) (A : Int → Prop) (q1 q2 q3 q4 q5 q6 q7 : Option V), σ = [some (.ref a), some (.ref L1), some (.int w1), some (.ref pc1), some (.ref o1), some (.ref o2), some (.int dn), some (.ref D1), q1, q2, q3, q4, q5, q6, q7] ∧ n ≤ 600 + 2000 * i ∧ i ≤ 3 ∧ Hold n cs ∧ J ps w1 dn k1 k2 hv A ∧ k1.length ≤ 1000 * i ∧ k2.length ≤ 1000 * i ∧ hv.length ≤ 1000 * i ∧ Sep H0 [] H1 [(2, L1, .lst [.int n, .ref hq]), (2, hq, .lst (cs.map V.int)), (2, pc1, .lst (ps.map V.int)), (2, o1, .ins C xo1 (F_Taker w1 dn d1 .non)), (2, d1, .dK k1), (2, o2, .ins C xo2 (F_Taker w1 dn d2 .non)), (2, d2, .dK k2), (2, D1, .dK hv)]) ?_ ?_ ?_
        · exact ⟨_, _, 0, [], [], [], fun _ => False, _, _, _, _, _, _, _, rfl, by omega, by omega, hh, J_start, by simp, by simp, by simp, S.sub [7, 8, 6, 5, 4, 3, 2, 1]⟩
        · rintro i σ H hi ⟨n, cs, dn, k1, k2, hv, A, q1, q2, q3, q4, q5, q6, q7, rfl, hn, hi3, hh, J0, hk1, hk2, hkv, S⟩
          have hd0 := J0.d0
          have hd1 := J0.d1
          try dsimp only [tSeq, tAsg, gName, tOp, tUn, tCB, tCons, tNil, tCall, tRet, tRetN, tDrop, tTest, tB, tC, tNext, tAugS, tAug, sFld1, sFldAug1, tMeth1, tMake, tMakeK1, tSl, tPart, tNoPart, sDPut1, tDPop, tBM, tBM0, tPar, gSub, tChain, tNot, tNotV, iList1, iTup1, iRng1, iRng2, List.set_cons_zero, List.set_cons_succ]
          try dsimp only [tSeq, tAsg, gName, tOp, tUn, tCB, tCons, tNil, tCall, tRet, tRetN, tDrop, tTest, tB, tC, tNext, tAugS, tAug, sFld1, sFldAug1, tMeth1, tMake, tMakeK1, tSl, tPart, tNoPart, sDPut1, tDPop, tBM, tBM0, tPar, gSub, tChain, tNot, tNotV, iList1, iTup1, iRng1, iRng2, List.set_cons_zero, List.set_cons_succ]
          refine x_var (by exact rfl) ?_
          refine x_lenI S 2 (by exact rfl) ?_
          refine x_var (by exact rfl) ?_
          refine x_var (by exact rfl) ?_
          refine x_I0 ?_
          refine x_min ?_
          try dsimp only [tSeq, tAsg, gName, tOp, tUn, tCB, tCons, tNil, tCall, tRet, tRetN, tDrop, tTest, tB, tC, tNext, tAugS, tAug, sFld1, sFldAug1, tMeth1, tMake, tMakeK1, tSl, tPart, tNoPart, sDPut1, tDPop, tBM, tBM0, tPar, gSub, tChain, tNot, tNotV, iList1, iTup1, iRng1, iRng2, List.set_cons_zero, List.set_cons_succ]
          refine x_lc ?_
          try dsimp only [tOp, tUn, tCB, tCons, tNil, tCall, tC, tMeth1, tMake, tMakeK1, tSl, tPart, tNoPart, tDPop, tChain, tNotV, iList1, iTup1, iRng1, iRng2]
          refine x_var (by exact rfl) ?_
          refine x_lenS (S.sq hs (by simp)) ?_
          refine x_min ?_
          refine x_max ?_
          refine ⟨_, rfl, by omega, by omega, ?_⟩
          refine lcR S (fun pl1 H S => ⟨fun i H1 => ∃ (n2 : Int) (cs2 xs : List Int), xs.length = i ∧ n2 ≤ n + i ∧ Hold n2 cs2 ∧ (∀ x ∈ xs, dn ≤ x ∧ x < dn + max 1 (min (ps.length : Int) (dn + w1) - dn)) ∧ Sep H0 [] H1 [(2, pl1, .lst (xs.map V.int)), (2, L1, .lst [.int n2, .ref hq]), (2, hq, .lst (cs2.map V.int)), (2, pc1, .lst (ps.map V.int)), (2, o1, .ins C xo1 (F_Taker w1 dn d1 .non)), (2, d1, .dK k1), (2, o2, .ins C xo2 (F_Taker w1 dn d2 .non)), (2, d2, .dK k2), (2, D1, .dK hv)], ?_, ?_, ?_⟩)
          · exact ⟨_, _, [], rfl, by omega, hh, (fun x hx => by cases hx), S.sub [0, 1, 2, 3, 4, 5, 6, 7, 8]⟩
          · rintro j H hi ⟨n2, cs2, xs, hxl, hn2, hh, hxs, S⟩
            refine ⟨rfl, ?_⟩
            try dsimp only [wipe, tYes, tSeq, tAsg, gName, tOp, tUn, tCB, tCons, tNil, tCall, tRet, tRetN, tDrop, tTest, tB, tC, tNext, tAugS, tAug, sFld1, sFldAug1, tMeth1, tMake, tMakeK1, tSl, tPart, tNoPart, sDPut1, tDPop, tBM, tBM0, tPar, gSub, tChain, tNot, tNotV, iList1, iTup1, iRng1, iRng2, List.set_cons_zero, List.set_cons_succ]
            refine iteT ?_
            refine x_var (by exact rfl) ?_
            refine x_var (by exact rfl) ?_
            refine x_var (by exact rfl) ?_
            refine x_var (by exact rfl) ?_
            refine x_I0 ?_
            refine x_max ?_
            refine c_draw S 1 2 (by exact rfl) (by exact rfl) hh (by first | omega | decide | (simp only [len_insAt, List.length_map, List.length_append, List.length_cons, List.length_nil, List.length_take, List.length_drop] at *; omega)) (by first | omega | decide | (simp only [len_insAt, List.length_map, List.length_append, List.length_cons, List.length_nil, List.length_take, List.length_drop] at *; omega)) (by first | omega | decide | (simp only [len_insAt, List.length_map, List.length_append, List.length_cons, List.length_nil, List.length_take, List.length_drop] at *; omega)) (fun r4 cs5 H r4a r4b hh S => ?_)
            simp only [List.set_cons_zero, List.set_cons_succ] at S
            refine x_I0 ?_
            refine x_lcappI S 0 (by exact rfl) (by omega) (fun H S => ?_)
            refine ⟨_, _, xs ++ [_], by rw [List.length_append, hxl]; rfl, by omega, hh, fun x hx => ?_, S⟩
            rcases List.mem_append.mp hx with hx | hx
            · exact hxs x hx
            · rw [List.mem_singleton.mp hx]; omega
          · rintro H ⟨n2, cs2, xs, hxl, hn2, hh, hxs, S⟩
            try dsimp only [tSeq, tAsg, gName, tOp, tUn, tCB, tCons, tNil, tCall, tRet, tRetN, tDrop, tTest, tB, tC, tNext, tAugS, tAug, sFld1, sFldAug1, tMeth1, tMake, tMakeK1, tSl, tPart, tNoPart, sDPut1, tDPop, tBM, tBM0, tPar, gSub, tChain, tNot, tNotV, iList1, iTup1, iRng1, iRng2, List.set_cons_zero, List.set_cons_succ]
            try dsimp only [tSeq, tAsg, gName, tOp, tUn, tCB, tCons, tNil, tCall, tRet, tRetN, tDrop, tTest, tB, tC, tNext, tAugS, tAug, sFld1, sFldAug1, tMeth1, tMake, tMakeK1, tSl, tPart, tNoPart, sDPut1, tDPop, tBM, tBM0, tPar, gSub, tChain, tNot, tNotV, iList1, iTup1, iRng1, iRng2, List.set_cons_zero, List.set_cons_succ]
            refine x_lc ?_
            try dsimp only [tOp, tUn, tCB, tCons, tNil, tCall, tC, tMeth1, tMake, tMakeK1, tSl, tPart, tNoPart, tDPop, tChain, tNotV, iList1, iTup1, iRng1, iRng2]
            refine x_var (by exact rfl) ?_
            refine x_ilist S 0 (by exact rfl) ?_
            refine lcL (xs := xs.map V.int) S (fun pm1 H S => ⟨fun i H1 => ∃ xs2 : List Int, xs2 = (xs.take i).filter (fun x : Int => decide (x < ps.length)) ∧ Sep H0 [] H1 [(2, pm1, .lst (xs2.map V.int)), (2, pl1, .lst (xs.map V.int)), (2, L1, .lst [.int n2, .ref hq]), (2, hq, .lst (cs2.map V.int)), (2, pc1, .lst (ps.map V.int)), (2, o1, .ins C xo1 (F_Taker w1 dn d1 .non)), (2, d1, .dK k1), (2, o2, .ins C xo2 (F_Taker w1 dn d2 .non)), (2, d2, .dK k2), (2, D1, .dK hv)], ?_, ?_, ?_, ?_⟩)
            · exact ⟨[], rfl, S.sub [0, 1, 2, 3, 4, 5, 6, 7, 8, 9]⟩
            · rintro j H hi ⟨xs2, rfl, S⟩
              exact S.sl 1 rfl
            · rintro j y H hi ⟨xs2, rfl, S⟩
              obtain ⟨z, hz, rfl⟩ := elem_of hi
              refine ⟨rfl, ?_⟩
              try dsimp only [wipe, tYes, tSeq, tAsg, gName, tOp, tUn, tCB, tCons, tNil, tCall, tRet, tRetN, tDrop, tTest, tB, tC, tNext, tAugS, tAug, sFld1, sFldAug1, tMeth1, tMake, tMakeK1, tSl, tPart, tNoPart, sDPut1, tDPop, tBM, tBM0, tPar, gSub, tChain, tNot, tNotV, iList1, iTup1, iRng1, iRng2, List.set_cons_zero, List.set_cons_succ]
              refine x_var (by exact rfl) ?_
              refine x_var (by exact rfl) ?_
              refine x_lenI S 4 (by exact rfl) ?_
              refine x_I0 ?_
              refine ⟨_, rfl, ?_⟩
              refine ited (fun c1 => ?_) (fun c1 => ?_)
              · refine x_var (by exact rfl) ?_
                refine x_lcappI S 0 (by exact rfl) (by have := List.length_filter_le (fun x : Int => decide (x < ps.length)) (xs.take j); rw [List.length_take] at this; omega) (fun H S => ?_)
                refine ⟨_, ?_, S⟩
                rw [take_snoc hz]
                exact filter_snoc_pos (p := fun x : Int => decide (x < ps.length)) (decide_eq_true c1)
              · refine ⟨_, ?_, S⟩
                rw [take_snoc hz]
                exact filter_snoc_neg (p := fun x : Int => decide (x < ps.length)) (decide_eq_false c1)
            · rintro H ⟨xs2, hx2, S⟩
              rw [List.length_map, List.take_length] at hx2
              have hb2 : ∀ x ∈ xs2, dn ≤ x ∧ x < dn + w1 ∧ x < ps.length := fun x hx => by
                rw [hx2, List.mem_filter] at hx
                have h1 := hxs x hx.1
                have h2 := of_decide_eq_true hx.2
                omega
              have hl2 : xs2.length ≤ 60 := by
                have := List.length_filter_le (fun x : Int => decide (x < ps.length)) xs
                rw [← hx2] at this
                omega
              clear hx2
              try dsimp only [tSeq, tAsg, gName, tOp, tUn, tCB, tCons, tNil, tCall, tRet, tRetN, tDrop, tTest, tB, tC, tNext, tAugS, tAug, sFld1, sFldAug1, tMeth1, tMake, tMakeK1, tSl, tPart, tNoPart, sDPut1, tDPop, tBM, tBM0, tPar, gSub, tChain, tNot, tNotV, iList1, iTup1, iRng1, iRng2, List.set_cons_zero, List.set_cons_succ]
              try dsimp only [tSeq, tAsg, gName, tOp, tUn, tCB, tCons, tNil, tCall, tRet, tRetN, tDrop, tTest, tB, tC, tNext, tAugS, tAug, sFld1, sFldAug1, tMeth1, tMake, tMakeK1, tSl, tPart, tNoPart, sDPut1, tDPop, tBM, tBM0, tPar, gSub, tChain, tNot, tNotV, iList1, iTup1, iRng1, iRng2, List.set_cons_zero, List.set_cons_succ]
              refine x_for ?_
              try dsimp only [tOp, tUn, tCB, tCons, tNil, tCall, tC, tMeth1, tMake, tMakeK1, tSl, tPart, tNoPart, tDPop, tChain, tNotV, iList1, iTup1, iRng1, iRng2]
              refine x_var (by exact rfl) ?_
              refine x_var (by exact rfl) ?_
              refine c_mixed S 2 3 0 (by exact rfl) (by exact rfl) (by exact rfl) hh (by omega) (by omega) (fun m1 ds1 ys1 mx1 H hm1 hh hy1 hyl1 S => ?_)
              simp only [List.set_cons_zero, List.set_cons_succ] at S
              refine x_ilist S 0 (by exact rfl) ?_
              refine forL (xs := ys1.map V.int) (fun j σ H1 => ∃ (k' : List (Key × V)) (q4 : Option V), σ = [some (.ref a), some (.ref L1), some (.int w1), some (.ref pc1), some (.ref o1), some (.ref o2), some (.int dn), some (.ref D1), some (.int (0 + (i : Nat))), some (.int (min (ps.length : Int) (dn + w1))), some (.ref pm1), q4, q5, q6, q7] ∧ k' = feed ps dn w1 k1 (ys1.take j) ∧ Sep H0 [] H1 [(2, mx1, .lst (ys1.map V.int)), (2, pm1, .lst (xs2.map V.int)), (2, L1, .lst [.int m1, .ref hq]), (2, hq, .lst (ds1.map V.int)), (2, pc1, .lst (ps.map V.int)), (2, o1, .ins C xo1 (F_Taker w1 dn d1 .non)), (2, d1, .dK k'), (2, o2, .ins C xo2 (F_Taker w1 dn d2 .non)), (2, d2, .dK k2), (2, D1, .dK hv)]) ?_ ?_ ?_ ?_
              · exact ⟨_, _, rfl, rfl, S.sub [0, 1, 3, 4, 5, 6, 7, 8, 9, 10]⟩
              · rintro j σ H hi ⟨k', q4, rfl, rfl, S⟩
                exact S.sl 0 rfl
              · rintro j y σ H hi ⟨k', q4, rfl, rfl, S⟩
                obtain ⟨z, hz, rfl⟩ := elem_of hi
                have hzb := hb2 z ((hy1 z).mp (List.mem_of_getElem? hz))
                have hd0 := J0.d0
                have hfl := len_feed (ps := ps) (t := dn) (w := w1) (ys := ys1.take j) (k := k1)
                rw [List.length_take] at hfl
                try dsimp only [tSeq, tAsg, gName, tOp, tUn, tCB, tCons, tNil, tCall, tRet, tRetN, tDrop, tTest, tB, tC, tNext, tAugS, tAug, sFld1, sFldAug1, tMeth1, tMake, tMakeK1, tSl, tPart, tNoPart, sDPut1, tDPop, tBM, tBM0, tPar, gSub, tChain, tNot, tNotV, iList1, iTup1, iRng1, iRng2, List.set_cons_zero, List.set_cons_succ]
                try dsimp only [tSeq, tAsg, gName, tOp, tUn, tCB, tCons, tNil, tCall, tRet, tRetN, tDrop, tTest, tB, tC, tNext, tAugS, tAug, sFld1, sFldAug1, tMeth1, tMake, tMakeK1, tSl, tPart, tNoPart, sDPut1, tDPop, tBM, tBM0, tPar, gSub, tChain, tNot, tNotV, iList1, iTup1, iRng1, iRng2, List.set_cons_zero, List.set_cons_succ]
                refine x_var (by exact rfl) ?_
                refine x_meth S 5 (by exact rfl) nk_Taker_came ?_
                refine x_var (by exact rfl) ?_
                refine x_var (by exact rfl) ?_
                refine x_var (by exact rfl) ?_
                refine x_ixI S 4 (by exact rfl) (by first | omega | exact Int.emod_nonneg _ (by omega)) (by first | omega | exact Int.emod_lt_of_pos _ (by omega)) (fun v2 hv2 => ?_)
                refine c_came S 5 6 (by exact rfl) (by exact rfl) (by omega) (fun H S => ?_)
                simp only [List.set_cons_zero, List.set_cons_succ] at S
                refine ⟨_, _, rfl, ?_, S⟩
                rw [take_snoc hz, feed_snoc, lk_of hv2]
              · rintro σ H ⟨k', q4, rfl, rfl, S⟩
                rw [List.length_map, List.take_length] at S
                try dsimp only [tSeq, tAsg, gName, tOp, tUn, tCB, tCons, tNil, tCall, tRet, tRetN, tDrop, tTest, tB, tC, tNext, tAugS, tAug, sFld1, sFldAug1, tMeth1, tMake, tMakeK1, tSl, tPart, tNoPart, sDPut1, tDPop, tBM, tBM0, tPar, gSub, tChain, tNot, tNotV, iList1, iTup1, iRng1, iRng2, List.set_cons_zero, List.set_cons_succ]
                try dsimp only [tSeq, tAsg, gName, tOp, tUn, tCB, tCons, tNil, tCall, tRet, tRetN, tDrop, tTest, tB, tC, tNext, tAugS, tAug, sFld1, sFldAug1, tMeth1, tMake, tMakeK1, tSl, tPart, tNoPart, sDPut1, tDPop, tBM, tBM0, tPar, gSub, tChain, tNot, tNotV, iList1, iTup1, iRng1, iRng2, List.set_cons_zero, List.set_cons_succ]
                refine x_for ?_
                try dsimp only [tOp, tUn, tCB, tCons, tNil, tCall, tC, tMeth1, tMake, tMakeK1, tSl, tPart, tNoPart, tDPop, tChain, tNotV, iList1, iTup1, iRng1, iRng2]
                refine x_var (by exact rfl) ?_
                refine x_var (by exact rfl) ?_
                refine c_mixed S 2 3 1 (by exact rfl) (by exact rfl) (by exact rfl) hh (by omega) (by omega) (fun m2 ds2 ys2 mx2 H hm2 hh hy2 hyl2 S => ?_)
                simp only [List.set_cons_zero, List.set_cons_succ] at S
                refine x_ilist S 0 (by exact rfl) ?_
                refine forL (xs := ys2.map V.int) (fun j σ H1 => ∃ (k' : List (Key × V)) (q4 : Option V), σ = [some (.ref a), some (.ref L1), some (.int w1), some (.ref pc1), some (.ref o1), some (.ref o2), some (.int dn), some (.ref D1), some (.int (0 + (i : Nat))), some (.int (min (ps.length : Int) (dn + w1))), some (.ref pm1), q4, q5, q6, q7] ∧ k' = feed ps dn w1 k2 (ys2.take j) ∧ Sep H0 [] H1 [(2, mx2, .lst (ys2.map V.int)), (2, pm1, .lst (xs2.map V.int)), (2, L1, .lst [.int m2, .ref hq]), (2, hq, .lst (ds2.map V.int)), (2, pc1, .lst (ps.map V.int)), (2, o1, .ins C xo1 (F_Taker w1 dn d1 .non)), (2, d1, .dK (feed ps dn w1 k1 ys1)), (2, o2, .ins C xo2 (F_Taker w1 dn d2 .non)), (2, d2, .dK k'), (2, D1, .dK hv)]) ?_ ?_ ?_ ?_
                · exact ⟨_, _, rfl, rfl, S.sub [0, 2, 3, 4, 5, 6, 7, 8, 9, 10]⟩
                · rintro j σ H hi ⟨k', q4, rfl, rfl, S⟩
                  exact S.sl 0 rfl
                · rintro j y σ H hi ⟨k', q4, rfl, rfl, S⟩
                  obtain ⟨z, hz, rfl⟩ := elem_of hi
                  have hzb := hb2 z ((hy2 z).mp (List.mem_of_getElem? hz))
                  have hd0 := J0.d0
                  have hfl := len_feed (ps := ps) (t := dn) (w := w1) (ys := ys2.take j) (k := k2)
                  rw [List.length_take] at hfl
                  try dsimp only [tSeq, tAsg, gName, tOp, tUn, tCB, tCons, tNil, tCall, tRet, tRetN, tDrop, tTest, tB, tC, tNext, tAugS, tAug, sFld1, sFldAug1, tMeth1, tMake, tMakeK1, tSl, tPart, tNoPart, sDPut1, tDPop, tBM, tBM0, tPar, gSub, tChain, tNot, tNotV, iList1, iTup1, iRng1, iRng2, List.set_cons_zero, List.set_cons_succ]
                  try dsimp only [tSeq, tAsg, gName, tOp, tUn, tCB, tCons, tNil, tCall, tRet, tRetN, tDrop, tTest, tB, tC, tNext, tAugS, tAug, sFld1, sFldAug1, tMeth1, tMake, tMakeK1, tSl, tPart, tNoPart, sDPut1, tDPop, tBM, tBM0, tPar, gSub, tChain, tNot, tNotV, iList1, iTup1, iRng1, iRng2, List.set_cons_zero, List.set_cons_succ]
                  refine x_var (by exact rfl) ?_
                  refine x_meth S 7 (by exact rfl) nk_Taker_came ?_
                  refine x_var (by exact rfl) ?_
                  refine x_var (by exact rfl) ?_
                  refine x_var (by exact rfl) ?_
                  refine x_ixI S 4 (by exact rfl) (by first | omega | exact Int.emod_nonneg _ (by omega)) (by first | omega | exact Int.emod_lt_of_pos _ (by omega)) (fun v3 hv3 => ?_)
                  refine c_came S 7 8 (by exact rfl) (by exact rfl) (by omega) (fun H S => ?_)
                  simp only [List.set_cons_zero, List.set_cons_succ] at S
                  refine ⟨_, _, rfl, ?_, S⟩
                  rw [take_snoc hz, feed_snoc, lk_of hv3]
                · rintro σ H ⟨k', q4, rfl, rfl, S⟩
                  rw [List.length_map, List.take_length] at S
                  try dsimp only [tSeq, tAsg, gName, tOp, tUn, tCB, tCons, tNil, tCall, tRet, tRetN, tDrop, tTest, tB, tC, tNext, tAugS, tAug, sFld1, sFldAug1, tMeth1, tMake, tMakeK1, tSl, tPart, tNoPart, sDPut1, tDPop, tBM, tBM0, tPar, gSub, tChain, tNot, tNotV, iList1, iTup1, iRng1, iRng2, List.set_cons_zero, List.set_cons_succ]
                  try dsimp only [tSeq, tAsg, gName, tOp, tUn, tCB, tCons, tNil, tCall, tRet, tRetN, tDrop, tTest, tB, tC, tNext, tAugS, tAug, sFld1, sFldAug1, tMeth1, tMake, tMakeK1, tSl, tPart, tNoPart, sDPut1, tDPop, tBM, tBM0, tPar, gSub, tChain, tNot, tNotV, iList1, iTup1, iRng1, iRng2, List.set_cons_zero, List.set_cons_succ]
                  refine x_for ?_
                  try dsimp only [tOp, tUn, tCB, tCons, tNil, tCall, tC, tMeth1, tMake, tMakeK1, tSl, tPart, tNoPart, tDPop, tChain, tNotV, iList1, iTup1, iRng1, iRng2]
                  refine x_var (by exact rfl) ?_
                  refine x_ilist S 1 (by exact rfl) ?_
                  refine forL (xs := xs2.map V.int) (fun j σ H1 => ∃ (h' : List (Key × V)) (q4 : Option V), σ = [some (.ref a), some (.ref L1), some (.int w1), some (.ref pc1), some (.ref o1), some (.ref o2), some (.int dn), some (.ref D1), some (.int (0 + (i : Nat))), some (.int (min (ps.length : Int) (dn + w1))), some (.ref pm1), q4, q5, q6, q7] ∧ h' = mark hv (xs2.take j) ∧ Sep H0 [] H1 [(2, pm1, .lst (xs2.map V.int)), (2, L1, .lst [.int m2, .ref hq]), (2, hq, .lst (ds2.map V.int)), (2, pc1, .lst (ps.map V.int)), (2, o1, .ins C xo1 (F_Taker w1 dn d1 .non)), (2, d1, .dK (feed ps dn w1 k1 ys1)), (2, o2, .ins C xo2 (F_Taker w1 dn d2 .non)), (2, d2, .dK (feed ps dn w1 k2 ys2)), (2, D1, .dK h')]) ?_ ?_ ?_ ?_
                  · exact ⟨_, _, rfl, rfl, S.sub [1, 2, 3, 4, 5, 6, 7, 8, 9]⟩
                  · rintro j σ H hi ⟨h', q4, rfl, rfl, S⟩
                    exact S.sl 0 rfl
                  · rintro j y σ H hi ⟨h', q4, rfl, rfl, S⟩
                    obtain ⟨z, hz, rfl⟩ := elem_of hi
                    have hml := len_mark (ys := xs2.take j) (k := hv)
                    rw [List.length_take] at hml
                    try dsimp only [tSeq, tAsg, gName, tOp, tUn, tCB, tCons, tNil, tCall, tRet, tRetN, tDrop, tTest, tB, tC, tNext, tAugS, tAug, sFld1, sFldAug1, tMeth1, tMake, tMakeK1, tSl, tPart, tNoPart, sDPut1, tDPop, tBM, tBM0, tPar, gSub, tChain, tNot, tNotV, iList1, iTup1, iRng1, iRng2, List.set_cons_zero, List.set_cons_succ]
                    try dsimp only [tSeq, tAsg, gName, tOp, tUn, tCB, tCons, tNil, tCall, tRet, tRetN, tDrop, tTest, tB, tC, tNext, tAugS, tAug, sFld1, sFldAug1, tMeth1, tMake, tMakeK1, tSl, tPart, tNoPart, sDPut1, tDPop, tBM, tBM0, tPar, gSub, tChain, tNot, tNotV, iList1, iTup1, iRng1, iRng2, List.set_cons_zero, List.set_cons_succ]
                    refine x_var (by exact rfl) ?_
                    refine x_var (by exact rfl) ?_
                    refine x_dput (k := Sum.inl _) S 8 (by exact rfl) (by omega) (fun H S => ?_)
                    simp only [List.set_cons_zero, List.set_cons_succ] at S
                    refine ⟨_, _, rfl, ?_, S⟩
                    rw [take_snoc hz, mark_snoc]
                  · rintro σ H ⟨h', q4, rfl, rfl, S⟩
                    rw [List.length_map, List.take_length] at S
                    try dsimp only [tSeq, tAsg, gName, tOp, tUn, tCB, tCons, tNil, tCall, tRet, tRetN, tDrop, tTest, tB, tC, tNext, tAugS, tAug, sFld1, sFldAug1, tMeth1, tMake, tMakeK1, tSl, tPart, tNoPart, sDPut1, tDPop, tBM, tBM0, tPar, gSub, tChain, tNot, tNotV, iList1, iTup1, iRng1, iRng2, List.set_cons_zero, List.set_cons_succ]
                    try dsimp only [tSeq, tAsg, gName, tOp, tUn, tCB, tCons, tNil, tCall, tRet, tRetN, tDrop, tTest, tB, tC, tNext, tAugS, tAug, sFld1, sFldAug1, tMeth1, tMake, tMakeK1, tSl, tPart, tNoPart, sDPut1, tDPop, tBM, tBM0, tPar, gSub, tChain, tNot, tNotV, iList1, iTup1, iRng1, iRng2, List.set_cons_zero, List.set_cons_succ]
                    refine x_var (by exact rfl) ?_
                    try dsimp only [tSeq, tAsg, gName, tOp, tUn, tCB, tCons, tNil, tCall, tRet, tRetN, tDrop, tTest, tB, tC, tNext, tAugS, tAug, sFld1, sFldAug1, tMeth1, tMake, tMakeK1, tSl, tPart, tNoPart, sDPut1, tDPop, tBM, tBM0, tPar, gSub, tChain, tNot, tNotV, iList1, iTup1, iRng1, iRng2, List.set_cons_zero, List.set_cons_succ]
                    refine x_while (fun m σ H' => ∃ z : Int, σ = [some (.ref a), some (.ref L1), some (.int w1), some (.ref pc1), some (.ref o1), some (.ref o2), some (.int dn), some (.ref D1), some (.int (0 + (i : Nat))), some (.int (min (ps.length : Int) (dn + w1))), some (.ref pm1), q4, some (.int z), q6, q7] ∧ H' = H ∧ m = above (mark hv xs2) z ∧ dn ≤ z ∧ ∀ i, dn ≤ i → i < z → valV (mark hv xs2) (.inl i : Key) ≠ none) (above (mark hv xs2) dn) ?_ ?_
                    · exact ⟨dn, rfl, rfl, rfl, Int.le_refl _, fun i a b => absurd a (by omega)⟩
                    · rintro m σ H ⟨z, rfl, rfl, rfl, hle, hall⟩
                      try dsimp only [tSeq, tAsg, gName, tOp, tUn, tCB, tCons, tNil, tCall, tRet, tRetN, tDrop, tTest, tB, tC, tNext, tAugS, tAug, sFld1, sFldAug1, tMeth1, tMake, tMakeK1, tSl, tPart, tNoPart, sDPut1, tDPop, tBM, tBM0, tPar, gSub, tChain, tNot, tNotV, iList1, iTup1, iRng1, iRng2, List.set_cons_zero, List.set_cons_succ]
                      refine x_var (by exact rfl) ?_
                      refine x_var (by exact rfl) ?_
                      refine x_din (k := Sum.inl _) S 8 (by exact rfl) ?_
                      refine ⟨_, rfl, ?_⟩
                      refine iteSome (fun wc2 c2 => ?_) (fun c2 => ?_)
                      · refine x_turn ?_
                        try dsimp only [tSeq, tAsg, gName, tOp, tUn, tCB, tCons, tNil, tCall, tRet, tRetN, tDrop, tTest, tB, tC, tNext, tAugS, tAug, sFld1, sFldAug1, tMeth1, tMake, tMakeK1, tSl, tPart, tNoPart, sDPut1, tDPop, tBM, tBM0, tPar, gSub, tChain, tNot, tNotV, iList1, iTup1, iRng1, iRng2, List.set_cons_zero, List.set_cons_succ]
                        refine ⟨_, rfl, ?_⟩
                        refine x_ip ?_
                        refine ⟨_, above_lt (by assumption), z + 1, rfl, rfl, rfl, by omega, fun i a b => ?_⟩
                        by_cases e : i = z
                        · subst e; intro q; simp_all
                        · exact hall i a (by omega)
                      · have rgot : Reach (mark hv xs2) dn z := ⟨hle, hall, by assumption⟩
                        obtain ⟨HA1, KA1, KA2, rf1, rf2, hz1, hz2, A2r⟩ := turn_facts w1a J0 hb2 hy1 hy2 rgot
                        obtain ⟨k1', et1, KB1, hk1'⟩ := takeN_KA _ 70 rfl (by omega) KA1 rf1 J0.d0 hz2
                        obtain ⟨k2', et2, KB2, hk2'⟩ := takeN_KA _ 70 rfl (by omega) KA2 rf2 J0.d0 hz2
                        have hd0 := J0.d0
                        have hf1 := len_feed (ps := ps) (t := dn) (w := w1) (ys := ys1) (k := k1)
                        have hf2 := len_feed (ps := ps) (t := dn) (w := w1) (ys := ys2) (k := k2)
                        try dsimp only [tSeq, tAsg, gName, tOp, tUn, tCB, tCons, tNil, tCall, tRet, tRetN, tDrop, tTest, tB, tC, tNext, tAugS, tAug, sFld1, sFldAug1, tMeth1, tMake, tMakeK1, tSl, tPart, tNoPart, sDPut1, tDPop, tBM, tBM0, tPar, gSub, tChain, tNot, tNotV, iList1, iTup1, iRng1, iRng2, List.set_cons_zero, List.set_cons_succ]
                        try dsimp only [tSeq, tAsg, gName, tOp, tUn, tCB, tCons, tNil, tCall, tRet, tRetN, tDrop, tTest, tB, tC, tNext, tAugS, tAug, sFld1, sFldAug1, tMeth1, tMake, tMakeK1, tSl, tPart, tNoPart, sDPut1, tDPop, tBM, tBM0, tPar, gSub, tChain, tNot, tNotV, iList1, iTup1, iRng1, iRng2, List.set_cons_zero, List.set_cons_succ]
                        refine x_if ?_
                        try dsimp only [tSeq, tAsg, gName, tOp, tUn, tCB, tCons, tNil, tCall, tRet, tRetN, tDrop, tTest, tB, tC, tNext, tAugS, tAug, sFld1, sFldAug1, tMeth1, tMake, tMakeK1, tSl, tPart, tNoPart, sDPut1, tDPop, tBM, tBM0, tPar, gSub, tChain, tNot, tNotV, iList1, iTup1, iRng1, iRng2, List.set_cons_zero, List.set_cons_succ]
                        refine x_or ?_
                        try dsimp only [tSeq, tAsg, gName, tOp, tUn, tCB, tCons, tNil, tCall, tRet, tRetN, tDrop, tTest, tB, tC, tNext, tAugS, tAug, sFld1, sFldAug1, tMeth1, tMake, tMakeK1, tSl, tPart, tNoPart, sDPut1, tDPop, tBM, tBM0, tPar, gSub, tChain, tNot, tNotV, iList1, iTup1, iRng1, iRng2, List.set_cons_zero, List.set_cons_succ]
                        refine x_var (by exact rfl) ?_
                        refine x_meth S 4 (by exact rfl) nk_Taker_told ?_
                        refine c_told S 4 5 (by exact rfl) (by exact rfl) (fun g1 ug1 H rg1 S => ?_)
                        refine x_var (by exact rfl) ?_
                        refine x_var (by exact rfl) ?_
                        refine x_var (by exact rfl) ?_
                        refine x_I0 ?_
                        refine x_tup S (by exact Nat.le_of_ble_eq_true rfl) (fun U2 H S => ?_)
                        refine x_neP S 1 0 (by exact rfl) (by exact rfl) ?_
                        refine ⟨_, rfl, ?_⟩
                        refine itend (fun c3 => ?_) (fun c3 => ?_)
                        · refine iteT ?_
                          try dsimp only [tSeq, tAsg, gName, tOp, tUn, tCB, tCons, tNil, tCall, tRet, tRetN, tDrop, tTest, tB, tC, tNext, tAugS, tAug, sFld1, sFldAug1, tMeth1, tMake, tMakeK1, tSl, tPart, tNoPart, sDPut1, tDPop, tBM, tBM0, tPar, gSub, tChain, tNot, tNotV, iList1, iTup1, iRng1, iRng2, List.set_cons_zero, List.set_cons_succ]
                          exact absurd (by rw [Reach.uniq rg1 rf1 (fun _ _ => Iff.rfl)]) c3
                        · refine x_var (by exact rfl) ?_
                          refine x_meth S 8 (by exact rfl) nk_Taker_told ?_
                          refine c_told S 8 9 (by exact rfl) (by exact rfl) (fun g2 ug2 H rg2 S => ?_)
                          refine x_var (by exact rfl) ?_
                          refine x_meth S 7 (by exact rfl) nk_Taker_told ?_
                          refine c_told S 7 8 (by exact rfl) (by exact rfl) (fun g3 ug3 H rg3 S => ?_)
                          refine x_neP S 1 0 (by exact rfl) (by exact rfl) ?_
                          refine ⟨_, rfl, ?_⟩
                          refine itend (fun c4 => ?_) (fun c4 => ?_)
                          · try dsimp only [tSeq, tAsg, gName, tOp, tUn, tCB, tCons, tNil, tCall, tRet, tRetN, tDrop, tTest, tB, tC, tNext, tAugS, tAug, sFld1, sFldAug1, tMeth1, tMake, tMakeK1, tSl, tPart, tNoPart, sDPut1, tDPop, tBM, tBM0, tPar, gSub, tChain, tNot, tNotV, iList1, iTup1, iRng1, iRng2, List.set_cons_zero, List.set_cons_succ]
                            exact absurd (by rw [Reach.uniq rg2 rf2 (fun _ _ => Iff.rfl), Reach.uniq rg3 rf1 (fun _ _ => Iff.rfl)]) c4
                          · try dsimp only [tSeq, tAsg, gName, tOp, tUn, tCB, tCons, tNil, tCall, tRet, tRetN, tDrop, tTest, tB, tC, tNext, tAugS, tAug, sFld1, sFldAug1, tMeth1, tMake, tMakeK1, tSl, tPart, tNoPart, sDPut1, tDPop, tBM, tBM0, tPar, gSub, tChain, tNot, tNotV, iList1, iTup1, iRng1, iRng2, List.set_cons_zero, List.set_cons_succ]
                            refine x_var (by exact rfl) ?_
                            refine x_var (by exact rfl) ?_
                            refine ⟨_, rfl, ?_⟩
                            refine x_var (by exact rfl) ?_
                            refine ⟨_, rfl, ?_⟩
                            refine x_slI S 7 (by exact rfl) (fun sl1 H S => ?_)
                            try dsimp only [tSeq, tAsg, gName, tOp, tUn, tCB, tCons, tNil, tCall, tRet, tRetN, tDrop, tTest, tB, tC, tNext, tAugS, tAug, sFld1, sFldAug1, tMeth1, tMake, tMakeK1, tSl, tPart, tNoPart, sDPut1, tDPop, tBM, tBM0, tPar, gSub, tChain, tNot, tNotV, iList1, iTup1, iRng1, iRng2, List.set_cons_zero, List.set_cons_succ]
                            refine x_if ?_
                            try dsimp only [tSeq, tAsg, gName, tOp, tUn, tCB, tCons, tNil, tCall, tRet, tRetN, tDrop, tTest, tB, tC, tNext, tAugS, tAug, sFld1, sFldAug1, tMeth1, tMake, tMakeK1, tSl, tPart, tNoPart, sDPut1, tDPop, tBM, tBM0, tPar, gSub, tChain, tNot, tNotV, iList1, iTup1, iRng1, iRng2, List.set_cons_zero, List.set_cons_succ]
                            refine x_or ?_
                            try dsimp only [tSeq, tAsg, gName, tOp, tUn, tCB, tCons, tNil, tCall, tRet, tRetN, tDrop, tTest, tB, tC, tNext, tAugS, tAug, sFld1, sFldAug1, tMeth1, tMake, tMakeK1, tSl, tPart, tNoPart, sDPut1, tDPop, tBM, tBM0, tPar, gSub, tChain, tNot, tNotV, iList1, iTup1, iRng1, iRng2, List.set_cons_zero, List.set_cons_succ]
                            refine x_var (by exact rfl) ?_
                            refine c_taken (m := 70) S 9 10 (by exact rfl) (by exact rfl) (by decide) et1 (fun tk1 H S => ?_)
                            simp only [List.set_cons_zero, List.set_cons_succ] at S
                            refine x_var (by exact rfl) ?_
                            refine x_neL S 0 1 (by exact rfl) (by exact rfl) ?_
                            refine ⟨_, rfl, ?_⟩
                            refine itend (fun c5 => ?_) (fun c5 => ?_)
                            · refine iteT ?_
                              try dsimp only [tSeq, tAsg, gName, tOp, tUn, tCB, tCons, tNil, tCall, tRet, tRetN, tDrop, tTest, tB, tC, tNext, tAugS, tAug, sFld1, sFldAug1, tMeth1, tMake, tMakeK1, tSl, tPart, tNoPart, sDPut1, tDPop, tBM, tBM0, tPar, gSub, tChain, tNot, tNotV, iList1, iTup1, iRng1, iRng2, List.set_cons_zero, List.set_cons_succ]
                              exact absurd (cutI_nat ps (by omega) (by omega) (by omega)).symm c5
                            · refine x_or ?_
                              try dsimp only [tSeq, tAsg, gName, tOp, tUn, tCB, tCons, tNil, tCall, tRet, tRetN, tDrop, tTest, tB, tC, tNext, tAugS, tAug, sFld1, sFldAug1, tMeth1, tMake, tMakeK1, tSl, tPart, tNoPart, sDPut1, tDPop, tBM, tBM0, tPar, gSub, tChain, tNot, tNotV, iList1, iTup1, iRng1, iRng2, List.set_cons_zero, List.set_cons_succ]
                              refine x_var (by exact rfl) ?_
                              refine c_taken (m := 70) S 12 13 (by exact rfl) (by exact rfl) (by decide) et2 (fun tk2 H S => ?_)
                              simp only [List.set_cons_zero, List.set_cons_succ] at S
                              refine x_var (by exact rfl) ?_
                              refine x_neL S 0 2 (by exact rfl) (by exact rfl) ?_
                              refine ⟨_, rfl, ?_⟩
                              refine itend (fun c6 => ?_) (fun c6 => ?_)
                              · refine iteT ?_
                                try dsimp only [tSeq, tAsg, gName, tOp, tUn, tCB, tCons, tNil, tCall, tRet, tRetN, tDrop, tTest, tB, tC, tNext, tAugS, tAug, sFld1, sFldAug1, tMeth1, tMake, tMakeK1, tSl, tPart, tNoPart, sDPut1, tDPop, tBM, tBM0, tPar, gSub, tChain, tNot, tNotV, iList1, iTup1, iRng1, iRng2, List.set_cons_zero, List.set_cons_succ]
                                exact absurd (cutI_nat ps (by omega) (by omega) (by omega)).symm c6
                              · refine x_var (by exact rfl) ?_
                                refine x_meth S 11 (by exact rfl) nk_Taker_told ?_
                                refine c_told S 11 12 (by exact rfl) (by exact rfl) (fun g4 ug4 H rg4 S => ?_)
                                refine x_var (by exact rfl) ?_
                                refine x_var (by exact rfl) ?_
                                refine x_var (by exact rfl) ?_
                                refine x_I0 ?_
                                refine x_tup S (by exact Nat.le_of_ble_eq_true rfl) (fun U3 H S => ?_)
                                refine x_neP S 1 0 (by exact rfl) (by exact rfl) ?_
                                refine ⟨_, rfl, ?_⟩
                                refine itend (fun c7 => ?_) (fun c7 => ?_)
                                · try dsimp only [tSeq, tAsg, gName, tOp, tUn, tCB, tCons, tNil, tCall, tRet, tRetN, tDrop, tTest, tB, tC, tNext, tAugS, tAug, sFld1, sFldAug1, tMeth1, tMake, tMakeK1, tSl, tPart, tNoPart, sDPut1, tDPop, tBM, tBM0, tPar, gSub, tChain, tNot, tNotV, iList1, iTup1, iRng1, iRng2, List.set_cons_zero, List.set_cons_succ]
                                  exact absurd (by rw [reach_no rg4 (KB1.no z (fun b => (HA1 z).mpr b.1.2 rgot.no))]) c7
                                · try dsimp only [tSeq, tAsg, gName, tOp, tUn, tCB, tCons, tNil, tCall, tRet, tRetN, tDrop, tTest, tB, tC, tNext, tAugS, tAug, sFld1, sFldAug1, tMeth1, tMake, tMakeK1, tSl, tPart, tNoPart, sDPut1, tDPop, tBM, tBM0, tPar, gSub, tChain, tNot, tNotV, iList1, iTup1, iRng1, iRng2, List.set_cons_zero, List.set_cons_succ]
                                  refine x_var (by exact rfl) ?_
                                  try dsimp only [tSeq, tAsg, gName, tOp, tUn, tCB, tCons, tNil, tCall, tRet, tRetN, tDrop, tTest, tB, tC, tNext, tAugS, tAug, sFld1, sFldAug1, tMeth1, tMake, tMakeK1, tSl, tPart, tNoPart, sDPut1, tDPop, tBM, tBM0, tPar, gSub, tChain, tNot, tNotV, iList1, iTup1, iRng1, iRng2, List.set_cons_zero, List.set_cons_succ]
                                  refine x_if ?_
                                  try dsimp only [tSeq, tAsg, gName, tOp, tUn, tCB, tCons, tNil, tCall, tRet, tRetN, tDrop, tTest, tB, tC, tNext, tAugS, tAug, sFld1, sFldAug1, tMeth1, tMake, tMakeK1, tSl, tPart, tNoPart, sDPut1, tDPop, tBM, tBM0, tPar, gSub, tChain, tNot, tNotV, iList1, iTup1, iRng1, iRng2, List.set_cons_zero, List.set_cons_succ]
                                  refine x_var (by exact rfl) ?_
                                  refine x_eq ?_
                                  refine ⟨_, rfl, ?_⟩
                                  refine iteq (fun c8 => ?_) (fun c8 => ?_)
                                  · try dsimp only [tSeq, tAsg, gName, tOp, tUn, tCB, tCons, tNil, tCall, tRet, tRetN, tDrop, tTest, tB, tC, tNext, tAugS, tAug, sFld1, sFldAug1, tMeth1, tMake, tMakeK1, tSl, tPart, tNoPart, sDPut1, tDPop, tBM, tBM0, tPar, gSub, tChain, tNot, tNotV, iList1, iTup1, iRng1, iRng2, List.set_cons_zero, List.set_cons_succ]
                                    refine x_for ?_
                                    try dsimp only [tOp, tUn, tCB, tCons, tNil, tCall, tC, tMeth1, tMake, tMakeK1, tSl, tPart, tNoPart, tDPop, tChain, tNotV, iList1, iTup1, iRng1, iRng2]
                                    refine x_var (by exact rfl) ?_
                                    refine x_var (by exact rfl) ?_
                                    refine x_lenI S 12 (by exact rfl) ?_
                                    refine x_var (by exact rfl) ?_
                                    refine x_var (by exact rfl) ?_
                                    refine x_I0 ?_
                                    refine x_min ?_
                                    refine ⟨_, _, rfl, ⟨by omega, by omega, by omega, by omega⟩, ?_⟩
                                    refine forR (fun j σ H1 => ∃ (ka kb : List (Key × V)) (q4 : Option V), σ = [some (.ref a), some (.ref L1), some (.int w1), some (.ref pc1), some (.ref o1), some (.ref o2), some (.int z), some (.ref D1), some (.int (0 + (i : Nat))), some (.int (min (ps.length : Int) (dn + w1))), some (.ref pm1), q4, some (.int z), some (.ref sl1), q7] ∧ ka = feed ps z w1 k1' (rng z j) ∧ kb = feed ps z w1 k2' (rng z j) ∧ Sep H0 [] H1 [(2, L1, .lst [.int m2, .ref hq]), (2, hq, .lst (ds2.map V.int)), (2, pc1, .lst (ps.map V.int)), (2, o1, .ins C xo1 (F_Taker w1 z d1 .non)), (2, d1, .dK ka), (2, o2, .ins C xo2 (F_Taker w1 z d2 .non)), (2, d2, .dK kb), (2, D1, .dK (mark hv xs2))]) ?_ ?_ ?_
                                    · exact ⟨_, _, _, rfl, rfl, rfl, S.sub [10, 11, 12, 13, 14, 15, 16, 17]⟩
                                    · rintro j σ H hi ⟨ka, kb, q4, rfl, rfl, rfl, S⟩
                                      have hfa := len_feed (ps := ps) (t := z) (w := w1) (ys := rng z j) (k := k1')
                                      have hfb := len_feed (ps := ps) (t := z) (w := w1) (ys := rng z j) (k := k2')
                                      rw [len_rng] at hfa hfb
                                      try dsimp only [tSeq, tAsg, gName, tOp, tUn, tCB, tCons, tNil, tCall, tRet, tRetN, tDrop, tTest, tB, tC, tNext, tAugS, tAug, sFld1, sFldAug1, tMeth1, tMake, tMakeK1, tSl, tPart, tNoPart, sDPut1, tDPop, tBM, tBM0, tPar, gSub, tChain, tNot, tNotV, iList1, iTup1, iRng1, iRng2, List.set_cons_zero, List.set_cons_succ]
                                      try dsimp only [tSeq, tAsg, gName, tOp, tUn, tCB, tCons, tNil, tCall, tRet, tRetN, tDrop, tTest, tB, tC, tNext, tAugS, tAug, sFld1, sFldAug1, tMeth1, tMake, tMakeK1, tSl, tPart, tNoPart, sDPut1, tDPop, tBM, tBM0, tPar, gSub, tChain, tNot, tNotV, iList1, iTup1, iRng1, iRng2, List.set_cons_zero, List.set_cons_succ]
                                      refine x_var (by exact rfl) ?_
                                      refine x_meth S 3 (by exact rfl) nk_Taker_came ?_
                                      refine x_var (by exact rfl) ?_
                                      refine x_var (by exact rfl) ?_
                                      refine x_var (by exact rfl) ?_
                                      refine x_ixI S 2 (by exact rfl) (by first | omega | exact Int.emod_nonneg _ (by omega)) (by first | omega | exact Int.emod_lt_of_pos _ (by omega)) (fun v4 hv4 => ?_)
                                      refine c_came S 3 4 (by exact rfl) (by exact rfl) (by omega) (fun H S => ?_)
                                      simp only [List.set_cons_zero, List.set_cons_succ] at S
                                      try dsimp only [tSeq, tAsg, gName, tOp, tUn, tCB, tCons, tNil, tCall, tRet, tRetN, tDrop, tTest, tB, tC, tNext, tAugS, tAug, sFld1, sFldAug1, tMeth1, tMake, tMakeK1, tSl, tPart, tNoPart, sDPut1, tDPop, tBM, tBM0, tPar, gSub, tChain, tNot, tNotV, iList1, iTup1, iRng1, iRng2, List.set_cons_zero, List.set_cons_succ]
                                      refine x_var (by exact rfl) ?_
                                      refine x_meth S 5 (by exact rfl) nk_Taker_came ?_
                                      refine x_var (by exact rfl) ?_
                                      refine x_var (by exact rfl) ?_
                                      refine x_var (by exact rfl) ?_
                                      refine x_ixI S 2 (by exact rfl) (by first | omega | exact Int.emod_nonneg _ (by omega)) (by first | omega | exact Int.emod_lt_of_pos _ (by omega)) (fun v5 hv5 => ?_)
                                      refine c_came S 5 6 (by exact rfl) (by exact rfl) (by omega) (fun H S => ?_)
                                      simp only [List.set_cons_zero, List.set_cons_succ] at S
                                      refine ⟨_, _, _, rfl, ?_, ?_, S⟩
                                      · rw [rng_snoc, feed_snoc, lk_of hv4]
                                      · rw [rng_snoc, feed_snoc, lk_of hv5]
                                    · rintro σ H ⟨ka, kb, q4, rfl, rfl, rfl, S⟩
                                      obtain ⟨KC1, KC2, rc1, rc2⟩ := rest_facts (w := w1) KB1 KB2 A2r hd1 rgot.le hz1 hz2 w1a
                                      obtain ⟨k3, et3, KD1, hk3⟩ := takeN_KA _ 70 rfl (by omega) KC1 rc1 (by omega) (by omega)
                                      obtain ⟨k4, et4, KD2, hk4⟩ := takeN_KA _ 70 rfl (by omega) KC2 rc2 (by omega) (by omega)
                                      have hfa := len_feed (ps := ps) (t := z) (w := w1) (ys := rng z (min (ps.length : Int) (z + w1) - z).toNat) (k := k1')
                                      have hfb := len_feed (ps := ps) (t := z) (w := w1) (ys := rng z (min (ps.length : Int) (z + w1) - z).toNat) (k := k2')
                                      rw [len_rng] at hfa hfb
                                      try dsimp only [tSeq, tAsg, gName, tOp, tUn, tCB, tCons, tNil, tCall, tRet, tRetN, tDrop, tTest, tB, tC, tNext, tAugS, tAug, sFld1, sFldAug1, tMeth1, tMake, tMakeK1, tSl, tPart, tNoPart, sDPut1, tDPop, tBM, tBM0, tPar, gSub, tChain, tNot, tNotV, iList1, iTup1, iRng1, iRng2, List.set_cons_zero, List.set_cons_succ]
                                      try dsimp only [tSeq, tAsg, gName, tOp, tUn, tCB, tCons, tNil, tCall, tRet, tRetN, tDrop, tTest, tB, tC, tNext, tAugS, tAug, sFld1, sFldAug1, tMeth1, tMake, tMakeK1, tSl, tPart, tNoPart, sDPut1, tDPop, tBM, tBM0, tPar, gSub, tChain, tNot, tNotV, iList1, iTup1, iRng1, iRng2, List.set_cons_zero, List.set_cons_succ]
                                      refine x_var (by exact rfl) ?_
                                      refine x_lenI S 2 (by exact rfl) ?_
                                      refine x_var (by exact rfl) ?_
                                      refine x_var (by exact rfl) ?_
                                      refine x_I0 ?_
                                      refine x_min ?_
                                      try dsimp only [tSeq, tAsg, gName, tOp, tUn, tCB, tCons, tNil, tCall, tRet, tRetN, tDrop, tTest, tB, tC, tNext, tAugS, tAug, sFld1, sFldAug1, tMeth1, tMake, tMakeK1, tSl, tPart, tNoPart, sDPut1, tDPop, tBM, tBM0, tPar, gSub, tChain, tNot, tNotV, iList1, iTup1, iRng1, iRng2, List.set_cons_zero, List.set_cons_succ]
                                      refine x_if ?_
                                      try dsimp only [tSeq, tAsg, gName, tOp, tUn, tCB, tCons, tNil, tCall, tRet, tRetN, tDrop, tTest, tB, tC, tNext, tAugS, tAug, sFld1, sFldAug1, tMeth1, tMake, tMakeK1, tSl, tPart, tNoPart, sDPut1, tDPop, tBM, tBM0, tPar, gSub, tChain, tNot, tNotV, iList1, iTup1, iRng1, iRng2, List.set_cons_zero, List.set_cons_succ]
                                      refine x_or ?_
                                      try dsimp only [tSeq, tAsg, gName, tOp, tUn, tCB, tCons, tNil, tCall, tRet, tRetN, tDrop, tTest, tB, tC, tNext, tAugS, tAug, sFld1, sFldAug1, tMeth1, tMake, tMakeK1, tSl, tPart, tNoPart, sDPut1, tDPop, tBM, tBM0, tPar, gSub, tChain, tNot, tNotV, iList1, iTup1, iRng1, iRng2, List.set_cons_zero, List.set_cons_succ]
                                      refine x_var (by exact rfl) ?_
                                      refine c_taken (m := 70) S 3 4 (by exact rfl) (by exact rfl) (by decide) et3 (fun tk3 H S => ?_)
                                      simp only [List.set_cons_zero, List.set_cons_succ] at S
                                      refine x_var (by exact rfl) ?_
                                      refine x_var (by exact rfl) ?_
                                      refine ⟨_, rfl, ?_⟩
                                      refine x_var (by exact rfl) ?_
                                      refine ⟨_, rfl, ?_⟩
                                      refine x_slI S 3 (by exact rfl) (fun sl2 H S => ?_)
                                      refine x_neL S 1 0 (by exact rfl) (by exact rfl) ?_
                                      refine ⟨_, rfl, ?_⟩
                                      refine itend (fun c9 => ?_) (fun c9 => ?_)
                                      · refine iteT ?_
                                        try dsimp only [tSeq, tAsg, gName, tOp, tUn, tCB, tCons, tNil, tCall, tRet, tRetN, tDrop, tTest, tB, tC, tNext, tAugS, tAug, sFld1, sFldAug1, tMeth1, tMake, tMakeK1, tSl, tPart, tNoPart, sDPut1, tDPop, tBM, tBM0, tPar, gSub, tChain, tNot, tNotV, iList1, iTup1, iRng1, iRng2, List.set_cons_zero, List.set_cons_succ]
                                        exact absurd (cutI_nat ps (by omega) (by omega) (by omega)).symm c9
                                      · refine x_var (by exact rfl) ?_
                                        refine c_taken (m := 70) S 7 8 (by exact rfl) (by exact rfl) (by decide) et4 (fun tk4 H S => ?_)
                                        simp only [List.set_cons_zero, List.set_cons_succ] at S
                                        refine x_var (by exact rfl) ?_
                                        refine x_var (by exact rfl) ?_
                                        refine ⟨_, rfl, ?_⟩
                                        refine x_var (by exact rfl) ?_
                                        refine ⟨_, rfl, ?_⟩
                                        refine x_slI S 5 (by exact rfl) (fun sl3 H S => ?_)
                                        refine x_neL S 1 0 (by exact rfl) (by exact rfl) ?_
                                        refine ⟨_, rfl, ?_⟩
                                        refine itend (fun c10 => ?_) (fun c10 => ?_)
                                        · try dsimp only [tSeq, tAsg, gName, tOp, tUn, tCB, tCons, tNil, tCall, tRet, tRetN, tDrop, tTest, tB, tC, tNext, tAugS, tAug, sFld1, sFldAug1, tMeth1, tMake, tMakeK1, tSl, tPart, tNoPart, sDPut1, tDPop, tBM, tBM0, tPar, gSub, tChain, tNot, tNotV, iList1, iTup1, iRng1, iRng2, List.set_cons_zero, List.set_cons_succ]
                                          exact absurd (cutI_nat ps (by omega) (by omega) (by omega)).symm c10
                                        · refine ⟨_, _, _, k3, k4, mark hv xs2, fun i => A i ∨ i ∈ xs2, _, _, _, _, _, _, _, rfl, by omega, by omega, hh, end_facts J0 HA1 KD1 KD2 A2r rgot.le hz2 w1a, by omega, by omega, ?_, S.sub [4, 5, 6, 7, 8, 9, 10, 11]⟩
                                          have := len_mark (ys := xs2) (k := hv)
                                          omega
                                  · refine ⟨_, _, z, k1', k2', mark hv xs2, fun i => A i ∨ i ∈ xs2, _, _, _, _, _, _, _, rfl, by omega, by omega, hh, mid_facts J0 HA1 KB1 KB2 A2r rgot.le hz2, by omega, by omega, ?_, S.sub [10, 11, 12, 13, 14, 15, 16, 17]⟩
                                    have := len_mark (ys := xs2) (k := hv)
                                    omega
        · rintro σ H ⟨n, cs, dn, k1, k2, hv, A, q1, q2, q3, q4, q5, q6, q7, rfl, hn, hi3, hh, J0, hk1, hk2, hkv, S⟩
          try dsimp only [tSeq, tAsg, gName, tOp, tUn, tCB, tCons, tNil, tCall, tRet, tRetN, tDrop, tTest, tB, tC, tNext, tAugS, tAug, sFld1, sFldAug1, tMeth1, tMake, tMakeK1, tSl, tPart, tNoPart, sDPut1, tDPop, tBM, tBM0, tPar, gSub, tChain, tNot, tNotV, iList1, iTup1, iRng1, iRng2, List.set_cons_zero, List.set_cons_succ]
          try dsimp only [tSeq, tAsg, gName, tOp, tUn, tCB, tCons, tNil, tCall, tRet, tRetN, tDrop, tTest, tB, tC, tNext, tAugS, tAug, sFld1, sFldAug1, tMeth1, tMake, tMakeK1, tSl, tPart, tNoPart, sDPut1, tDPop, tBM, tBM0, tPar, gSub, tChain, tNot, tNotV, iList1, iTup1, iRng1, iRng2, List.set_cons_zero, List.set_cons_succ]
          refine x_var (by exact rfl) ?_
          refine x_meth S 5 (by exact rfl) nk_Taker_told ?_
          refine c_told S 5 6 (by exact rfl) (by exact rfl) (fun g5 ug5 H rg5 S => ?_)
          refine x_var (by exact rfl) ?_
          refine x_meth S 4 (by exact rfl) nk_Taker_told ?_
          refine c_told S 4 5 (by exact rfl) (by exact rfl) (fun g6 ug6 H rg6 S => ?_)
          refine x_eqP S 1 0 (by exact rfl) (by exact rfl) ?_
          have e : g5 = g6 := Reach.uniq rg5 rg6 (fun i hi => (J0.a2.some).trans (J0.a1.some).symm)
          subst e
          rw [decide_eq_true rfl]
          exact k _
    · refine x_ifE ?_
      try dsimp only [tSeq, tAsg, gName, tOp, tUn, tCB, tCons, tNil, tCall, tRet, tRetN, tDrop, tTest, tB, tC, tNext, tAugS, tAug, sFld1, sFldAug1, tMeth1, tMake, tMakeK1, tSl, tPart, tNoPart, sDPut1, tDPop, tBM, tBM0, tPar, gSub, tChain, tNot, tNotV, iList1, iTup1, iRng1, iRng2, List.set_cons_zero, List.set_cons_succ]
      refine x_var (by exact rfl) ?_
      refine x_lst S (by exact Nat.le_of_ble_eq_true rfl) (fun L51 H S => ?_)
      refine x_neSq (ys := []) (S.sq hs (by simp)) (S.sl 0 (by exact (by exact rfl))) ?_
      refine ⟨_, rfl, ?_⟩
      refine itend (fun c51 => ?_) (fun c51 => ?_)
      · refine x_var (by exact rfl) ?_
        refine x_listS S (S.sq hs (by simp)) (fun l1 H S => ?_)
        exact KK _ _ ⟨_, ns, rfl, ⟨c51, hl, Int.le_refl _⟩, S.sub [0]⟩
      · refine x_lst S (by exact Nat.le_of_ble_eq_true rfl) (fun L52 H S => ?_)
        exact KK _ _ ⟨_, [0], rfl, ⟨by simp, by decide, Int.le_refl _⟩, S.sub [0]⟩
end
end G

set_option linter.all false
set_option maxRecDepth 100000
set_option maxHeartbeats 4000000
namespace G
open PySem PySem.Spec PyProof.Rows L2
theorem all_mk {l : PySem.W.OpenLaw} {w : World} {K : PySem.W.Frag} {h : Heap} {mg : Str → Option Value} {fa C_Taker f1 f2 f3 f4 f5 f6 f7 f8 f9 f10 : Addr} (X : K.In h) (G : h.Ns mainGlobals mg) (hfa : mg "law" = some (.ref fa))
    {od1 an1 od2 an2 od3 an3 od4 an4 od5 an5 od6 an6 od7 an7 od8 an8 od9 an9 od10 an10 : Option Addr} {sl1 sl2 sl3 sl4 sl5 sl6 sl7 sl8 sl9 sl10 : Array (Option Value)}
    {D1 : Addr}
    {oc1 dc1 pm1 cd1 ct1 oc2 kV2 dc2 pm2 cd2 ct2 oc3 kV3 dc3 pm3 cd3 ct3 oc4 kV4 dc4 pm4 cd4 ct4 oc5 kV5 dc5 pm5 cd5 ct5 oc6 kV6 dc6 pm6 cd6 ct6 oc7 kV7 dc7 pm7 cd7 ct7 oc8 kV8 dc8 pm8 cd8 ct8 oc9 kV9 dc9 pm9 cd9 ct9 oc10 kV10 dc10 pm10 cd10 ct10 : Value} {tk1 : Tok}
    (g_Taker : PySem.W.nsIn K mainGlobals "Taker" = some (some (.ref C_Taker)))
    (pg_Taker : PySem.W.plainGet K C_Taker Str.empty = true)
    (hd_Taker : PySem.W.hasDictIn K C_Taker = true)
    (po_Taker : PySem.W.plainOver K C_Taker = true)
    (sa_Taker : PySem.W.findIn K (.ref C_Taker) "__setattr__" = some (some (.builtin "object.__setattr__")))
    (mk_Taker : PySem.W.makesIn K C_Taker = true)
    (kc_Taker : PySem.W.keepIn K (.ref C_Taker) = true)
    (na_Taker_wide : PySem.W.findIn K (.ref C_Taker) "wide" = some none)
    (na_Taker_taken : PySem.W.findIn K (.ref C_Taker) "taken" = some none)
    (na_Taker_kept : PySem.W.findIn K (.ref C_Taker) "kept" = some none)
    (na_Taker_end : PySem.W.findIn K (.ref C_Taker) "end" = some none)
    (m1 : PySem.W.findIn K (.ref C_Taker) "__init__" = some (some (.ref f1)))
    (i1 : PySem.W.isFn K (.ref f1) = true)
    (l1 : K.lookup f1 = some ⟨oc1, od1, .func (PySem.W.fnOf "__init__" "Taker.__init__" (defArgs s_Taker__init) (defBody s_Taker__init) (defScope s_Taker__init) .none (.ref D1) dc1 pm1 an1 cd1 ct1), sl1⟩)
    (c1 : PySem.W.codeIn K cd1 "Taker.__init__" = true)
    (k1 : PySem.W.keepIn K (.ref f1) = true)
    (d1 : PySem.W.nsIn K D1 "window" = some (some (.int 4 tk1)))
    (m2 : PySem.W.findIn K (.ref C_Taker) "came" = some (some (.ref f2)))
    (i2 : PySem.W.isFn K (.ref f2) = true)
    (l2 : K.lookup f2 = some ⟨oc2, od2, .func (PySem.W.fnOf "came" "Taker.came" (defArgs s_Taker_came) (defBody s_Taker_came) (defScope s_Taker_came) .none kV2 dc2 pm2 an2 cd2 ct2), sl2⟩)
    (c2 : PySem.W.codeIn K cd2 "Taker.came" = true)
    (k2 : PySem.W.keepIn K (.ref f2) = true)
    (m3 : PySem.W.findIn K (.ref C_Taker) "take" = some (some (.ref f3)))
    (i3 : PySem.W.isFn K (.ref f3) = true)
    (l3 : K.lookup f3 = some ⟨oc3, od3, .func (PySem.W.fnOf "take" "Taker.take" (defArgs s_Taker_take) (defBody s_Taker_take) (defScope s_Taker_take) .none kV3 dc3 pm3 an3 cd3 ct3), sl3⟩)
    (c3 : PySem.W.codeIn K cd3 "Taker.take" = true)
    (k3 : PySem.W.keepIn K (.ref f3) = true)
    (m4 : PySem.W.findIn K (.ref C_Taker) "told" = some (some (.ref f4)))
    (i4 : PySem.W.isFn K (.ref f4) = true)
    (l4 : K.lookup f4 = some ⟨oc4, od4, .func (PySem.W.fnOf "told" "Taker.told" (defArgs s_Taker_told) (defBody s_Taker_told) (defScope s_Taker_told) .none kV4 dc4 pm4 an4 cd4 ct4), sl4⟩)
    (c4 : PySem.W.codeIn K cd4 "Taker.told" = true)
    (k4 : PySem.W.keepIn K (.ref f4) = true)
    (a5 : PySem.W.nsIn K mainGlobals "_law_draw" = some (some (.ref f5)))
    (l5 : K.lookup f5 = some ⟨oc5, od5, .func (PySem.W.fnOf "_law_draw" "_law_draw" (defArgs s_law_draw) (defBody s_law_draw) (defScope s_law_draw) .none kV5 dc5 pm5 an5 cd5 ct5), sl5⟩)
    (c5 : PySem.W.codeIn K cd5 "_law_draw" = true)
    (k5 : PySem.W.keepIn K (.ref f5) = true)
    (a6 : PySem.W.nsIn K mainGlobals "_law_value" = some (some (.ref f6)))
    (l6 : K.lookup f6 = some ⟨oc6, od6, .func (PySem.W.fnOf "_law_value" "_law_value" (defArgs s_law_value) (defBody s_law_value) (defScope s_law_value) .none kV6 dc6 pm6 an6 cd6 ct6), sl6⟩)
    (c6 : PySem.W.codeIn K cd6 "_law_value" = true)
    (k6 : PySem.W.keepIn K (.ref f6) = true)
    (a7 : PySem.W.nsIn K mainGlobals "_law_wide" = some (some (.ref f7)))
    (l7 : K.lookup f7 = some ⟨oc7, od7, .func (PySem.W.fnOf "_law_wide" "_law_wide" (defArgs s_law_wide) (defBody s_law_wide) (defScope s_law_wide) .none kV7 dc7 pm7 an7 cd7 ct7), sl7⟩)
    (c7 : PySem.W.codeIn K cd7 "_law_wide" = true)
    (k7 : PySem.W.keepIn K (.ref f7) = true)
    (a8 : PySem.W.nsIn K mainGlobals "_law_mixed" = some (some (.ref f8)))
    (l8 : K.lookup f8 = some ⟨oc8, od8, .func (PySem.W.fnOf "_law_mixed" "_law_mixed" (defArgs s_law_mixed) (defBody s_law_mixed) (defScope s_law_mixed) .none kV8 dc8 pm8 an8 cd8 ct8), sl8⟩)
    (c8 : PySem.W.codeIn K cd8 "_law_mixed" = true)
    (k8 : PySem.W.keepIn K (.ref f8) = true)
    (a9 : PySem.W.nsIn K mainGlobals "_law_taken" = some (some (.ref f9)))
    (l9 : K.lookup f9 = some ⟨oc9, od9, .func (PySem.W.fnOf "_law_taken" "_law_taken" (defArgs s_law_taken) (defBody s_law_taken) (defScope s_law_taken) .none kV9 dc9 pm9 an9 cd9 ct9), sl9⟩)
    (c9 : PySem.W.codeIn K cd9 "_law_taken" = true)
    (k9 : PySem.W.keepIn K (.ref f9) = true)
    (a10 : PySem.W.nsIn K mainGlobals "law" = some (some (.ref f10)))
    (l10 : K.lookup f10 = some ⟨oc10, od10, .func (PySem.W.fnOf "law" "law" (defArgs s_law) (defBody s_law) (defScope s_law) .none kV10 dc10 pm10 an10 cd10 ct10), sl10⟩)
    (c10 : PySem.W.codeIn K cd10 "law" = true)
    (k10 : PySem.W.keepIn K (.ref f10) = true)
    (z_len : PySem.W.nsIn K mainGlobals "len" = some none)
    (z_list : PySem.W.nsIn K mainGlobals "list" = some none)
    (z_range : PySem.W.nsIn K mainGlobals "range" = some none)
    (z_min : PySem.W.nsIn K mainGlobals "min" = some none)
    (z_max : PySem.W.nsIn K mainGlobals "max" = some none)
    : ∃ fd : FuncData, (∀ (s : Shared) (v : Value), BindsTo s fd ⟨[v], []⟩ [("_law_script", v)]) ∧ ∀ base : Heap, K.In base → base.Ns mainGlobals mg → FnOk l.prog w K mg base CX0 4 fa fd ["_law_script"] (spLaw K) := by
  have e := hfa.symm.trans (PySem.W.mg_of X G a10)
  cases e
  have cl_Taker : Cls K C_Taker := ⟨pg_Taker, hd_Taker, po_Taker, sa_Taker⟩
  have F_Taker__init := fun_mk (st := s_Taker__init) l1 c1 k1
  have M_Taker : Mk K C_Taker f1 := ⟨mk_Taker, m1, i1, kc_Taker⟩
  have F_Taker_came := fun_mk (st := s_Taker_came) l2 c2 k2
  have b_Taker_came := F_Taker_came.binds (ps := ["self", "place", "value"]) fun _ _ _ _ _ _ us hl => match us, hl with | [_, _, _], _ => rfl
  have me_Taker_came : L2.Meth K C_Taker "came" f2 := ⟨m2, i2, k2⟩
  have F_Taker_take := fun_mk (st := s_Taker_take) l3 c3 k3
  have b_Taker_take := F_Taker_take.binds (ps := ["self"]) fun _ _ _ _ _ _ us hl => match us, hl with | [_], _ => rfl
  have me_Taker_take : L2.Meth K C_Taker "take" f3 := ⟨m3, i3, k3⟩
  have F_Taker_told := fun_mk (st := s_Taker_told) l4 c4 k4
  have b_Taker_told := F_Taker_told.binds (ps := ["self"]) fun _ _ _ _ _ _ us hl => match us, hl with | [_], _ => rfl
  have me_Taker_told : L2.Meth K C_Taker "told" f4 := ⟨m4, i4, k4⟩
  have gC_Taker : mg "Taker" = some (.ref C_Taker) := PySem.W.mg_of X G g_Taker
  have F_law_draw := fun_mk (st := s_law_draw) l5 c5 k5
  have b_law_draw := F_law_draw.binds (ps := ["_law_hold", "_law_many"]) fun _ _ _ _ _ _ us hl => match us, hl with | [_, _], _ => rfl
  have g_law_draw : mg "_law_draw" = some (.ref f5) := PySem.W.mg_of X G a5
  have F_law_value := fun_mk (st := s_law_value) l6 c6 k6
  have b_law_value := F_law_value.binds (ps := ["_law_hold"]) fun _ _ _ _ _ _ us hl => match us, hl with | [_], _ => rfl
  have g_law_value : mg "_law_value" = some (.ref f6) := PySem.W.mg_of X G a6
  have F_law_wide := fun_mk (st := s_law_wide) l7 c7 k7
  have b_law_wide := F_law_wide.binds (ps := ["_law_hold"]) fun _ _ _ _ _ _ us hl => match us, hl with | [_], _ => rfl
  have g_law_wide : mg "_law_wide" = some (.ref f7) := PySem.W.mg_of X G a7
  have F_law_mixed := fun_mk (st := s_law_mixed) l8 c8 k8
  have b_law_mixed := F_law_mixed.binds (ps := ["_law_hold", "_law_some"]) fun _ _ _ _ _ _ us hl => match us, hl with | [_, _], _ => rfl
  have g_law_mixed : mg "_law_mixed" = some (.ref f8) := PySem.W.mg_of X G a8
  have F_law_taken := fun_mk (st := s_law_taken) l9 c9 k9
  have b_law_taken := F_law_taken.binds (ps := ["_law_taker", "_law_many"]) fun _ _ _ _ _ _ us hl => match us, hl with | [_, _], _ => rfl
  have g_law_taken : mg "_law_taken" = some (.ref f9) := PySem.W.mg_of X G a9
  have F_law := fun_mk (st := s_law) l10 c10 k10
  have b_law := F_law.binds (ps := ["_law_script"]) fun _ _ _ _ _ _ us hl => match us, hl with | [_], _ => rfl
  have z_len : mg "len" = none := PySem.W.mg_none_of X G z_len
  have z_list : mg "list" = none := PySem.W.mg_none_of X G z_list
  have z_range : mg "range" = none := PySem.W.mg_none_of X G z_range
  have z_min : mg "min" = none := PySem.W.mg_none_of X G z_min
  have z_max : mg "max" = none := PySem.W.mg_none_of X G z_max
  refine ⟨PySem.W.fnOf "law" "law" (defArgs s_law) (defBody s_law) (defScope s_law) .none kV10 dc10 pm10 an10 cd10 ct10, fun s v => .of_eq rfl, fun base _ _ => ?_⟩
  have T : TkCls K C_Taker := ⟨cl_Taker, na_Taker_wide, na_Taker_taken, na_Taker_kept, na_Taker_end⟩
  have FD : FunD K "__init__" "Taker.__init__" (defArgs s_Taker__init) (defBody s_Taker__init) (defScope s_Taker__init) [] [("window", V.int 4)] _ _ := ⟨⟨_, _, _, _, _, _, _, _, _, _, rfl, l1, c1, .inl ⟨rfl, rfl⟩, .inr ⟨_, rfl, fun q hq => by rw [List.mem_singleton.mp hq]; exact ⟨_, d1, _, rfl⟩⟩⟩, k1⟩
  obtain ⟨mv, KB⟩ := FD.kbinds0 (ps := ["self", "window"]) 1 ["window"] [] (fun us mv ws => us ++ ws) (by simp) (fun _ h => nomatch h) (fun r1 _ r2 => r1.append r2) (fun D doc pm an cdv ct us mv ws h1 h2 h3 => match us, ws, h1, h3 with | [_], [_], _, _ => rfl)
  have mk : MakK l.prog w K mg base CX0 1 "Taker" C_Taker ["window"] (spTkInit C_Taker) := ⟨_, _, _, _, M_Taker, ok_Taker__init F_Taker__init T, gC_Taker, KB⟩
  have mcame : Met l.prog w K mg base CX0 1 C_Taker "came" (spCame C_Taker) := ⟨_, _, _, cl_Taker, me_Taker_came, ok_Taker_came F_Taker_came T, b_Taker_came⟩
  have mtake : Met l.prog w K mg base CX0 1 C_Taker "take" (spTake C_Taker) := ⟨_, _, _, cl_Taker, me_Taker_take, ok_Taker_take F_Taker_take T, b_Taker_take⟩
  have mtold : Met l.prog w K mg base CX0 1 C_Taker "told" (spTold C_Taker) := ⟨_, _, _, cl_Taker, me_Taker_told, ok_Taker_told F_Taker_told T, b_Taker_told⟩
  have cd : Cal l.prog w K mg base CX0 1 "_law_draw" spDraw := ⟨_, _, _, ok_draw F_law_draw z_len, g_law_draw, F_law_draw.kp, b_law_draw⟩
  have cv : Cal l.prog w K mg base CX0 2 "_law_value" spValue := ⟨_, _, _, ok_law_value F_law_value cd z_range, g_law_value, F_law_value.kp, b_law_value⟩
  have cw : Cal l.prog w K mg base CX0 2 "_law_wide" spWide := ⟨_, _, _, ok_law_wide F_law_wide cd, g_law_wide, F_law_wide.kp, b_law_wide⟩
  have cmx : Cal l.prog w K mg base CX0 2 "_law_mixed" (spMixed K) := ⟨_, _, _, ok_law_mixed F_law_mixed cd z_len, g_law_mixed, F_law_mixed.kp, b_law_mixed⟩
  have ctk : Cal l.prog w K mg base CX0 2 "_law_taken" (spTaken C_Taker) := ⟨_, _, _, ok_law_taken F_law_taken mtake z_range, g_law_taken, F_law_taken.kp, b_law_taken⟩
  exact ok_law F_law cd cv cw cmx ctk mk mcame mtold z_len z_list z_range z_min z_max
end G

set_option linter.all false
set_option maxRecDepth 100000
set_option maxHeartbeats 4000000
open PySem PySem.W PyProof.Rows
set_option maxRecDepth 100000 in
set_option maxHeartbeats 0 in
theorem PySem.Challenge.cw_farasked_k12_whole_orders_of_arrival_holds : PySem.Challenge.rw_farasked_k12_whole_orders_of_arrival.Holds := by
  w_on; o_law; k_head; (case hw => w_witness2)
  k_fill
  refine L2.walk_of (l := PySem.Challenge.rw_farasked_k12_whole_orders_of_arrival) (n := 63) (k := 4) (x := "_law_script") (CX := fun _ => L2.CX0) (sp := fun w => G.spLaw _) rfl (by decide) rfl ⟨rfl, by decide, by decide⟩ (fun w h Y => PySem.W.kIn_of Y) ?F (fun _ _ a ns hl _ hS => ⟨a, ns, rfl, hS, hl, fun _ => rfl⟩) (fun _ _ _ _ _ h => h)
  case F =>
    intro w mg fa h KX GN hmg
    refine' G.all_mk KX GN hmg ?g_Taker ?pg_Taker ?hd_Taker ?po_Taker ?sa_Taker ?mk_Taker ?kc_Taker ?na_Taker_wide ?na_Taker_taken ?na_Taker_kept ?na_Taker_end ?m1 ?i1 ?l1 ?c1 ?k1 ?d1 ?m2 ?i2 ?l2 ?c2 ?k2 ?m3 ?i3 ?l3 ?c3 ?k3 ?m4 ?i4 ?l4 ?c4 ?k4 ?a5 ?l5 ?c5 ?k5 ?a6 ?l6 ?c6 ?k6 ?a7 ?l7 ?c7 ?k7 ?a8 ?l8 ?c8 ?k8 ?a9 ?l9 ?c9 ?k9 ?a10 ?l10 ?c10 ?k10 ?z_len ?z_list ?z_range ?z_min ?z_max
    (case g_Taker => k_is)
    (case pg_Taker => k_is)
    (case hd_Taker => k_is)
    (case po_Taker => k_is)
    (case sa_Taker => k_is)
    (case mk_Taker => k_is)
    (case kc_Taker => k_is)
    (case na_Taker_wide => k_is)
    (case na_Taker_taken => k_is)
    (case na_Taker_kept => k_is)
    (case na_Taker_end => k_is)
    (case m1 => k_is)
    (case i1 => k_is)
    (case l1 => k_is)
    (case c1 => k_is)
    (case k1 => k_is)
    (case d1 => k_is)
    (case m2 => k_is)
    (case i2 => k_is)
    (case l2 => k_is)
    (case c2 => k_is)
    (case k2 => k_is)
    (case m3 => k_is)
    (case i3 => k_is)
    (case l3 => k_is)
    (case c3 => k_is)
    (case k3 => k_is)
    (case m4 => k_is)
    (case i4 => k_is)
    (case l4 => k_is)
    (case c4 => k_is)
    (case k4 => k_is)
    (case a5 => k_is)
    (case l5 => k_is)
    (case c5 => k_is)
    (case k5 => k_is)
    (case a6 => k_is)
    (case l6 => k_is)
    (case c6 => k_is)
    (case k6 => k_is)
    (case a7 => k_is)
    (case l7 => k_is)
    (case c7 => k_is)
    (case k7 => k_is)
    (case a8 => k_is)
    (case l8 => k_is)
    (case c8 => k_is)
    (case k8 => k_is)
    (case a9 => k_is)
    (case l9 => k_is)
    (case c9 => k_is)
    (case k9 => k_is)
    (case a10 => k_is)
    (case l10 => k_is)
    (case c10 => k_is)
    (case k10 => k_is)
    (case z_len => k_is)
    (case z_list => k_is)
    (case z_range => k_is)
    (case z_min => k_is)
    (case z_max => k_is)

