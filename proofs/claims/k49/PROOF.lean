import PyProof.Rows.All
import Wide.All
import OpenK.AllK
import Wide.FinOn
import HandS.ForMost
import HandS.Wide
import HandS.Flow
import HandS.Defaults
import HandS.MakeKwOnly
import HandS.Codes
import HandS.More
import HandS.NoneIn
import HandS.Style
import HandS.IsInst
import KE.Datum
import HandS.Walk
import HandS.TupLen
import HandS.Zip
import HandS.Text
import HandS.RevTup
import HandS.Conv
import HandS.DictComp
import PySem.Challenge.RW_farasked_k49_stores_told
set_option Elab.async false
set_option linter.all false
set_option maxRecDepth 100000
/-! what stands in the heap, as one list of cells -/
namespace G
open PySem PySem.Spec PyProof.Rows L2

/-- a cell: 0 read alone, 1 of the caller's and to be changed, 2 new here -/
abbrev Cell := Nat × Addr × HO
structure Sep (H0 : Hp) (ft : List Addr) (H : Hp) (l : List Cell) : Prop where
  nd : (l.map (·.2.1)).Nodup
  rd : ∀ c ∈ l, H c.2.1 = some c.2.2
  fr : ∀ b o, H0 b = some o → b ∉ ft → H b = some o
  wr : ∀ c ∈ l, c.1 = 1 → c.2.1 ∈ ft
  nw : ∀ c ∈ l, c.1 = 2 → H0 c.2.1 = none
  ex : ∀ b ∈ ft, ∃ o, H b = some o
section
variable {H0 H H' : Hp} {ft : List Addr} {l : List Cell} {t : Nat} {a p q b : Addr} {o o' u : HO}
theorem Sep.nil (ex : ∀ b ∈ ft, ∃ o, H b = some o) : Sep H ft H [] := ⟨List.nodup_nil, fun _ h => (nomatch h), fun _ _ h _ => h, fun _ h => (nomatch h), fun _ h => (nomatch h), ex⟩
theorem Sep.mem (S : Sep H0 ft H l) (i : Nat) {c : Cell} (h : l[i]? = some c) : c ∈ l := List.mem_of_getElem? h
theorem Sep.get (S : Sep H0 ft H l) (i : Nat) (h : l[i]? = some (t, a, o)) : H a = some o := S.rd _ (List.mem_of_getElem? h)
theorem Sep.new_none (S : Sep H0 ft H l) (i : Nat) (h : l[i]? = some (2, a, o)) : H0 a = none := S.nw _ (List.mem_of_getElem? h) rfl
theorem Sep.ne {t t' : Nat} (S : Sep H0 ft H l) (i j : Nat) (h : l[i]? = some (t, a, o)) (h' : l[j]? = some (t', b, u)) (d : i ≠ j) : a ≠ b := by
  intro e
  have h1 : (l.map (·.2.1))[i]? = some a := by rw [List.getElem?_map, h]; rfl
  have h2 : (l.map (·.2.1))[j]? = some a := by rw [List.getElem?_map, h', e]; rfl
  obtain ⟨x1, e1⟩ := List.getElem?_eq_some_iff.mp h1
  obtain ⟨x2, e2⟩ := List.getElem?_eq_some_iff.mp h2
  exact d ((List.getElem_inj S.nd).mp (e1.trans e2.symm))
theorem Sep.add (S : Sep H0 ft H l) (t : Nat) (ha : H a = some o) (hn : ∀ c ∈ l, c.2.1 ≠ a) (h1 : t = 1 → a ∈ ft) (h2 : t = 2 → H0 a = none) : Sep H0 ft H ((t, a, o) :: l) :=
  ⟨List.nodup_cons.mpr ⟨fun m => by obtain ⟨c, hc, e⟩ := List.mem_map.mp m; exact hn c hc e, S.nd⟩,
   fun c hc => (List.mem_cons.mp hc).elim (fun e => by rw [e]; exact ha) (S.rd c), S.fr,
   fun c hc => (List.mem_cons.mp hc).elim (fun e => by rw [e]; exact h1) (S.wr c),
   fun c hc => (List.mem_cons.mp hc).elim (fun e => by rw [e]; exact h2) (S.nw c), S.ex⟩
/-- what is not there was not there at the entry, where all that may be changed is there -/
theorem Sep.none0 (S : Sep H0 ft H l) (hp : H p = none) : H0 p = none := by
  cases e : H0 p with
  | none => rfl
  | some o =>
    by_cases m : p ∈ ft
    · obtain ⟨u, hu⟩ := S.ex p m
      rw [hp] at hu; cases hu
    · have := S.fr p o e m
      rw [hp] at this; cases this
theorem Sep.new (S : Sep H0 ft H l) (hp : H p = none) (o : HO) : Sep H0 ft (upd H p o) ((2, p, o) :: l) := by
  have h0 := S.none0 hp
  have hne : ∀ c ∈ l, c.2.1 ≠ p := fun c hc e => by
    have := S.rd c hc
    rw [e, hp] at this; cases this
  have S' : Sep H0 ft (upd H p o) l := ⟨S.nd, fun c hc => by rw [upd_ne (hne c hc)]; exact S.rd c hc, fun b u e m => by rw [upd_ne (ne_of_none e h0)]; exact S.fr b u e m, S.wr, S.nw, fun b m => by obtain ⟨u, hu⟩ := S.ex b m; exact ⟨u, by rw [upd_ne (ne_of_none hu hp)]; exact hu⟩⟩
  exact S'.add 2 upd_same hne (fun e => by cases e) fun _ => h0
theorem Sep.put (S : Sep H0 ft H l) (i : Nat) (o' : HO) (h : l[i]? = some (t, a, o)) (ht : t = 1 ∨ t = 2 := by first | exact .inl rfl | exact .inr rfl) : Sep H0 ft (upd H a o') (l.set i (t, a, o')) := by
  have hw : H0 a = none ∨ a ∈ ft := by
    rcases ht with e | e
    · exact .inr (S.wr _ (List.mem_of_getElem? h) e)
    · exact .inl (S.nw _ (List.mem_of_getElem? h) e)
  have hi : i < l.length := (List.getElem?_eq_some_iff.mp h).1
  have em : (l.set i (t, a, o')).map (·.2.1) = l.map (·.2.1) := by
    rw [List.map_set]
    have : (l.map (·.2.1))[i]? = some a := by rw [List.getElem?_map, h]; rfl
    obtain ⟨x, e⟩ := List.getElem?_eq_some_iff.mp this
    rw [← e]
    exact List.set_getElem_self x
  refine ⟨by rw [em]; exact S.nd, fun c hc => ?_, fun b u e m => ?_, fun c hc => ?_, fun c hc => ?_, fun b m => ?_⟩
  · rcases List.getElem?_of_mem hc with ⟨j, hj⟩
    by_cases e : i = j
    · subst e
      rw [List.getElem?_set_self hi] at hj
      cases hj
      exact upd_same
    · rw [List.getElem?_set_ne e] at hj
      have hne : c.2.1 ≠ a := S.ne (t := c.1) (o := c.2.2) j i hj h (Ne.symm e)
      rw [upd_ne hne]
      exact S.rd c (List.mem_of_getElem? hj)
  · have nb : b ≠ a := fun z => by
      rw [z] at e m
      rcases hw with k | k
      · rw [k] at e; cases e
      · exact m k
    rw [upd_ne nb]
    exact S.fr b u e m
  · rcases List.mem_or_eq_of_mem_set hc with hc | rfl
    · exact S.wr c hc
    · exact fun e => S.wr (t, a, o) (List.mem_of_getElem? h) e
  · rcases List.mem_or_eq_of_mem_set hc with hc | rfl
    · exact S.nw c hc
    · exact fun e => S.nw (t, a, o) (List.mem_of_getElem? h) e
  · obtain ⟨u, hu⟩ := S.ex b m
    by_cases e : b = a
    · subst e; exact ⟨_, upd_same⟩
    · exact ⟨u, by rw [upd_ne e]; exact hu⟩
/-- behind a call that changes nothing that was -/
theorem Sep.stay (S : Sep H0 ft H l) (F : ∀ b o, H b = some o → H' b = some o) : Sep H0 ft H' l :=
  ⟨S.nd, fun c hc => F _ _ (S.rd c hc), fun b o e m => F b o (S.fr b o e m), S.wr, S.nw, fun b m => let ⟨u, hu⟩ := S.ex b m; ⟨u, F b u hu⟩⟩
/-- behind a call that changes the i-th cell alone -/
theorem Sep.chg1 (S : Sep H0 ft H l) (i : Nat) (h : l[i]? = some (t, a, o)) (F : ∀ b u, H b = some u → b ≠ a → H' b = some u) (e : H' a = some o') (ht : t = 1 ∨ t = 2 := by first | exact .inl rfl | exact .inr rfl) :
    Sep H0 ft H' (l.set i (t, a, o')) := by
  have S1 := S.put i o' h ht
  refine S1.stay fun b u hb => ?_
  by_cases z : b = a
  · subst z; rw [upd_same] at hb; cases hb; exact e
  · rw [upd_ne z] at hb; exact F b u hb z
theorem Sep.chg2 {t' : Nat} {o2 o2' : HO} (S : Sep H0 ft H l) (i j : Nat) (h : l[i]? = some (t, a, o)) (h' : l[j]? = some (t', b, o2)) (d : i ≠ j) (F : ∀ c u, H c = some u → c ≠ a → c ≠ b → H' c = some u) (e : H' a = some o') (e2 : H' b = some o2')
    (ht : t = 1 ∨ t = 2 := by first | exact .inl rfl | exact .inr rfl) (ht' : t' = 1 ∨ t' = 2 := by first | exact .inl rfl | exact .inr rfl) : Sep H0 ft H' ((l.set i (t, a, o')).set j (t', b, o2')) := by
  have S1 := S.put i o' h ht
  have nab : a ≠ b := S.ne i j h h' d
  refine S1.chg1 j (by rw [List.getElem?_set_ne d]; exact h') (fun c u hc z => ?_) e2 ht'
  by_cases w : c = a
  · subst w; rw [upd_same] at hc; cases hc; exact e
  · rw [upd_ne w] at hc; exact F c u hc w z
theorem nodup_of {α : Type} (l : List α) (is : List Nat) : is.Nodup → l.Nodup → (is.filterMap (l[·]?)).Nodup := by
  intro h1 h2
  induction is with
  | nil => exact List.nodup_nil
  | cons i r ih =>
    obtain ⟨n1, n2⟩ := List.nodup_cons.mp h1
    cases e : l[i]? with
    | none => rw [List.filterMap_cons_none e]; exact ih n2
    | some x =>
      rw [List.filterMap_cons_some e]
      refine List.nodup_cons.mpr ⟨fun m => ?_, ih n2⟩
      obtain ⟨j, hj, ej⟩ := List.mem_filterMap.mp m
      obtain ⟨x1, e1⟩ := List.getElem?_eq_some_iff.mp e
      obtain ⟨x2, e2⟩ := List.getElem?_eq_some_iff.mp ej
      have := (List.getElem_inj h2).mp (e1.trans e2.symm)
      subst this
      exact n1 hj
/-- some of the cells, in another order -/
theorem Sep.sub (S : Sep H0 ft H l) (is : List Nat) (hn : is.Nodup := by decide) : Sep H0 ft H (is.filterMap (l[·]?)) := by
  have hm : ∀ c ∈ is.filterMap (l[·]?), c ∈ l := fun c hc => by
    obtain ⟨j, _, ej⟩ := List.mem_filterMap.mp hc
    exact List.mem_of_getElem? ej
  refine ⟨?_, fun c hc => S.rd c (hm c hc), S.fr, fun c hc => S.wr c (hm c hc), fun c hc => S.nw c (hm c hc), S.ex⟩
  have : (is.filterMap (l[·]?)).map (·.2.1) = is.filterMap ((l.map (·.2.1))[·]?) := by
    rw [List.map_filterMap]
    congr 1
    funext i
    rw [List.getElem?_map]
  rw [this]
  exact nodup_of _ is hn S.nd
theorem Sep.sq {K : PySem.W.Frag} {xs : List V} (S : Sep H0 ft H l) (h : SqL K H0 a xs) (ha : a ∉ ft) : SqL K H a xs := by
  rcases h with (h | ⟨o, h⟩) | h
  · exact .inl (.inl (S.fr _ _ h ha))
  · exact .inl (.inr ⟨o, S.fr _ _ h ha⟩)
  · exact .inr h
theorem Sep.sl {K : PySem.W.Frag} {xs : List V} (S : Sep H0 ft H l) (i : Nat) (h : l[i]? = some (t, a, .lst xs)) : SqL K H a xs := .of (S.get i h)
theorem Sep.st {K : PySem.W.Frag} {xs : List V} (S : Sep H0 ft H l) (i : Nat) (h : l[i]? = some (t, a, .tup xs)) : SqT K H a xs := .of (S.get i h)
theorem Sep.of0 : Sep H [] H [] := Sep.nil fun _ h => (nomatch h)
theorem Sep.of1 (h : H a = some o) : Sep H [a] H [(1, a, o)] := (Sep.nil fun b m => by rw [List.mem_singleton.mp m]; exact ⟨o, h⟩).add 1 h (fun _ z => nomatch z) (fun _ => List.mem_singleton_self a) (fun z => by cases z)
theorem Sep.of2 (h : H a = some o) (h' : H b = some u) (n : a ≠ b) : Sep H [a, b] H [(1, a, o), (1, b, u)] :=
  ((Sep.nil fun c m => (List.mem_cons.mp m).elim (fun e => by rw [e]; exact ⟨_, h⟩) fun m => by rw [List.mem_singleton.mp m]; exact ⟨_, h'⟩).add 1 h' (fun _ z => nomatch z) (fun _ => by simp) (fun z => by cases z)).add 1 h (fun c hc => by rw [List.mem_singleton.mp hc]; exact n.symm) (fun _ => by simp) (fun z => by cases z)
theorem Sep.out (S : Sep H0 ft H l) : ∀ b o, H0 b = some o → b ∉ ft → H b = some o := S.fr
theorem Sep.out1 (S : Sep H0 [a] H l) : ∀ b o, H0 b = some o → b ≠ a → H b = some o := fun b o e n => S.fr b o e (by simp [n])
theorem Sep.out2 (S : Sep H0 [a, b] H l) : ∀ c o, H0 c = some o → c ≠ a → c ≠ b → H c = some o := fun c o e n m => S.fr c o e (by simp [n, m])
end
/-! ### steps: what a reading asks, answered over the cells -/
section
variable {H0 H : Hp} {ft : List Addr} {l : List Cell} {t : Nat} {a p : Addr} {o : HO} {K : PySem.W.Frag} {σ : L2.St} {Q : VK} {v x y : V} {i j : Int}
theorem x_var {n : Nat} (h : σ[n]? = some (some v)) (q : Q v H) : tVar n σ H Q := ⟨v, h, q⟩
theorem x_ixF {xs : List V} (S : Sep H0 ft H l) (n : Nat) (h : l[n]? = some (t, p, .lst xs)) (ha : atI xs i = some v) (q : Q v H) : rIxL K (.ref p) (.int i) H Q := ⟨p, xs, i, v, rfl, rfl, S.sl n h, ha, q⟩
theorem x_ixT {xs : List V} (S : Sep H0 ft H l) (n : Nat) (h : l[n]? = some (t, p, .tup xs)) (ha : atI xs i = some v) (q : Q v H) : rIxT K (.ref p) (.int i) H Q := ⟨p, xs, i, v, rfl, rfl, S.st n h, ha, q⟩
theorem at_map {α : Type} {f : α → V} {cs : List α} {i : Int} (h0 : 0 ≤ i) (h : i < cs.length) : ∃ c, cs[i.toNat]? = some c ∧ atI (cs.map f) i = some (f c) := by
  have hl : i.toNat < cs.length := by omega
  refine ⟨cs[i.toNat], List.getElem?_eq_getElem hl, ?_⟩
  have e : ((i.toNat : Nat) : Int) = i := by omega
  have := atI_nat (xs := cs.map f) (j := i.toNat) (v := f cs[i.toNat]) (by rw [List.getElem?_map, List.getElem?_eq_getElem hl]; rfl)
  rw [e] at this
  exact this
theorem x_ixI {cs : List Int} (S : Sep H0 ft H l) (n : Nat) (h : l[n]? = some (t, p, .lst (cs.map V.int))) (h0 : 0 ≤ i) (h1 : i < cs.length) (q : ∀ c, cs[i.toNat]? = some c → Q (.int c) H) : rIxL K (.ref p) (.int i) H Q := by
  obtain ⟨c, hc, ha⟩ := at_map (f := V.int) h0 h1
  exact ⟨p, _, i, _, rfl, rfl, S.sl n h, ha, q c hc⟩
theorem x_ixS {cs : List Int} (hs : SqL K H p (cs.map V.int)) (h0 : 0 ≤ i) (h1 : i < cs.length) (q : ∀ c, cs[i.toNat]? = some c → Q (.int c) H) : rIxL K (.ref p) (.int i) H Q := by
  obtain ⟨c, hc, ha⟩ := at_map (f := V.int) h0 h1
  exact ⟨p, _, i, _, rfl, rfl, hs, ha, q c hc⟩
theorem x_setL {xs : List V} {k : Nat} {Qd : Hp → Prop} (S : Sep H0 ft H l) (n : Nat) (h : l[n]? = some (t, p, .lst xs)) (hj : ixN xs.length i = some k) (q : ∀ H', Sep H0 ft H' (l.set n (t, p, .lst (xs.set k v))) → Qd H')
    (ht : t = 1 ∨ t = 2 := by first | exact .inl rfl | exact .inr rfl) : rSetL (.ref p) (.int i) v H Qd := ⟨p, xs, i, k, rfl, rfl, S.get n h, hj, q _ (S.put n _ h ht)⟩
theorem ixN_in {n : Nat} (h0 : 0 ≤ i) (h : i < n) : ixN n i = some i.toNat := by unfold ixN; rw [if_pos h0, if_pos h]
theorem x_setI {cs : List Int} {Qd : Hp → Prop} (S : Sep H0 ft H l) (n : Nat) (h : l[n]? = some (t, p, .lst (cs.map V.int))) (h0 : 0 ≤ i) (h1 : i < cs.length) (q : ∀ H', Sep H0 ft H' (l.set n (t, p, .lst ((cs.set i.toNat j).map V.int))) → Qd H')
    (ht : t = 1 ∨ t = 2 := by first | exact .inl rfl | exact .inr rfl) : rSetL (.ref p) (.int i) (.int j) H Qd := by
  refine ⟨p, _, i, i.toNat, rfl, rfl, S.get n h, ixN_in h0 (by rw [List.length_map]; exact h1), ?_⟩
  have := S.put n (.lst ((cs.map V.int).set i.toNat (.int j))) h ht
  rw [← List.map_set] at this ⊢
  exact q _ this
def rLen (K : PySem.W.Frag) : List V → Hp → VK → Prop := fun xs H Q => ∃ p ys, xs = [.ref p] ∧ (SqL K H p ys ∨ SqT K H p ys) ∧ Q (.int ys.length) H
theorem cl_len {X : Cx} : CallR X (.builtin "len") (rLen X.K) := call_len_seq
theorem x_len {xs : List V} (S : Sep H0 ft H l) (n : Nat) (h : l[n]? = some (t, p, .lst xs)) (q : Q (.int xs.length) H) : rLen K [.ref p] H Q := ⟨p, xs, rfl, .inl (S.sl n h), q⟩
theorem x_lenI {cs : List Int} (S : Sep H0 ft H l) (n : Nat) (h : l[n]? = some (t, p, .lst (cs.map V.int))) (q : Q (.int cs.length) H) : rLen K [.ref p] H Q := ⟨p, _, rfl, .inl (S.sl n h), by rw [List.length_map]; exact q⟩
theorem x_lenT {xs : List V} (S : Sep H0 ft H l) (n : Nat) (h : l[n]? = some (t, p, .tup xs)) (q : Q (.int xs.length) H) : rLen K [.ref p] H Q := ⟨p, xs, rfl, .inr (S.st n h), q⟩
theorem x_lenS {cs : List Int} (hs : SqL K H p (cs.map V.int)) (q : Q (.int cs.length) H) : rLen K [.ref p] H Q := ⟨p, _, rfl, .inl hs, by rw [List.length_map]; exact q⟩
theorem x_I {C : Int → Int → Prop} {g : Int → Int → V} (c : C i j) (q : Q (g i j) H) : rI C g (.int i) (.int j) H Q := ⟨i, j, rfl, rfl, c, q⟩
theorem x_I0 {g : Int → Int → V} (q : Q (g i j) H) : rI0 g (.int i) (.int j) H Q := ⟨i, j, rfl, rfl, q⟩
theorem x_ip {f : Int → Int → Int} (q : Q (.int (f i j)) H) : ipI f (.int i) (.int j) H Q := ⟨i, j, rfl, rfl, q⟩
theorem x_U {g : Int → V} (q : Q (g i) H) : rU g (.int i) H Q := ⟨i, rfl, q⟩
theorem x_eq (q : Q (.bl (decide (x = y))) H) (s : scal x y = true := by rfl) : rEq x y H Q := ⟨s, q⟩
theorem x_ne (q : Q (.bl (!decide (x = y))) H) (s : scal x y = true := by rfl) : rNe x y H Q := ⟨s, q⟩
theorem x_bl {b : Bool} {R : Bool → Hp → Prop} (q : R b H) : ∃ k, V.bl b = .bl k ∧ R k H := ⟨b, rfl, q⟩
/-- a new object -/
theorem x_new (S : Sep H0 ft H l) (o : HO) {R : Addr → Hp → Prop} (q : ∀ p H', Sep H0 ft H' ((2, p, o) :: l) → R p H') : ∀ p, H p = none → R p (upd H p o) := fun p hp => q p _ (S.new hp o)
end
/-! ### more steps -/
section
variable {H0 H : Hp} {ft : List Addr} {l : List Cell} {t : Nat} {a p : Addr} {o : HO} {K : PySem.W.Frag} {σ : L2.St} {Q : VK} {v x y : V} {i j : Int}
theorem div_ok (h : 0 < j) (h2 : j < 2 ^ 200) : CDivW i j := wide_div (b := 200) h (by omega) (by decide) (by decide)
theorem x_if {tc : TT} {t u : TS} {D : Ends} (h : tc σ H fun b H1 => if b = true then t D σ H1 else u D σ H1) : tIfS tc t u D σ H := h
def ForJ (J : It) (g : TG) (tb : TS) (D : Ends) (σ : L2.St) (H : Hp) : Prop := ∃ W : Nat → Nat → L2.St → Hp → Prop, (∃ m, W 0 m σ H) ∧ ∀ i m σ H, W i m σ H →
  (J.stop i H ∧ D.nx σ H) ∨ (J.go i H ∧ ∃ N : L2.St → Hp → Prop, (∀ σ' H', N σ' H' → ∃ m', m' < m ∧ W (i + 1) m' σ' H') ∧ ∀ x H', J.yld i H x H' → g x σ H' fun σ2 H2 => tb { D with nx := N, ct := N, bk := D.nx } σ2 H2)
theorem x_for {wi : TI} {g : TG} {tb : TS} {D : Ends} (h : wi σ H fun J H1 => ForJ J g tb D σ H1) : tFor wi g tb D σ H := h
theorem forR {lo : Int} {n : Nat} {g : TG} {tb : TS} {D : Ends} (Pv : Nat → L2.St → Hp → Prop) (h0 : Pv 0 σ H)
    (hs : ∀ i σ H, i < n → Pv i σ H → g (.int (lo + i)) σ H fun σ2 H2 => tb { D with nx := Pv (i + 1), ct := Pv (i + 1), bk := D.nx } σ2 H2) (hd : ∀ σ H, Pv n σ H → D.nx σ H) : ForJ (Itr lo n) g tb D σ H := for_range Pv h0 hs hd
theorem forL {xs : List V} {g : TG} {tb : TS} {D : Ends} (Pv : Nat → L2.St → Hp → Prop) (h0 : Pv 0 σ H) (hl : ∀ i σ H, i ≤ xs.length → Pv i σ H → SqL K H a xs)
    (hs : ∀ i x σ H, xs[i]? = some x → Pv i σ H → g x σ H fun σ2 H2 => tb { D with nx := Pv (i + 1), ct := Pv (i + 1), bk := D.nx } σ2 H2) (hd : ∀ σ H, Pv xs.length σ H → D.nx σ H) : ForJ (Itl K a) g tb D σ H := for_list Pv h0 hl hs hd
def LcJ (J : It) (g : TG) (tt : TT) (te : TE) (vs : List Nat) (σ : L2.St) (H1 : Hp) (Q : VK) : Prop := ∀ D, H1 D = none → ∃ W : Nat → Nat → Hp → Prop, (∃ m, W 0 m (upd H1 D (.lst []))) ∧ ∀ i m H, W i m H →
  (J.stop i H ∧ Q (.ref D) H) ∨ (J.go i H ∧ ∃ Nx : Hp → Prop, (∀ H', Nx H' → ∃ m', m' < m ∧ W (i + 1) m' H') ∧ ∀ x H', J.yld i H x H' → g x (wipe σ vs) H' fun σ2 H2 => wipe σ2 vs = wipe σ vs ∧ tt σ2 H2 fun b H3 =>
    if b = true then te σ2 H3 fun y H4 => ∃ acc, H4 D = some (.lst acc) ∧ acc.length < sizeLine ∧ Nx (upd H4 D (.lst (acc ++ [y]))) else Nx H3)
theorem x_lc {wi : TI} {g : TG} {tt : TT} {te : TE} {vs : List Nat} (h : wi σ H fun J H1 => LcJ J g tt te vs σ H1 Q) : tLc wi g tt te vs σ H Q := h
/-- what a turn hands on is put behind the new list -/
def rLcA (D : Addr) (y : V) (H : Hp) (R : Hp → Prop) : Prop := ∃ acc, H D = some (.lst acc) ∧ acc.length < sizeLine ∧ R (upd H D (.lst (acc ++ [y])))
theorem lcR {lo : Int} {n : Nat} {g : TG} {tt : TT} {te : TE} {vs : List Nat} (S : Sep H0 ft H l) (h : ∀ D H1, Sep H0 ft H1 ((2, D, .lst []) :: l) → ∃ Pv : Nat → Hp → Prop, Pv 0 H1 ∧
    (∀ i H, i < n → Pv i H → g (.int (lo + i)) (wipe σ vs) H fun σ2 H2 => wipe σ2 vs = wipe σ vs ∧ tt σ2 H2 fun b H3 => if b = true then te σ2 H3 fun y H4 => rLcA D y H4 (Pv (i + 1)) else Pv (i + 1) H3) ∧
    ∀ H, Pv n H → Q (.ref D) H) : LcJ (Itr lo n) g tt te vs σ H Q := fun D hD =>
  let ⟨Pv, h0, hs, hd⟩ := h D _ (S.new hD (.lst []))
  lc_range (H1 := H) Pv h0 hs hd
theorem lcL {xs : List V} {g : TG} {tt : TT} {te : TE} {vs : List Nat} (S : Sep H0 ft H l) (h : ∀ D H1, Sep H0 ft H1 ((2, D, .lst []) :: l) → ∃ Pv : Nat → Hp → Prop, Pv 0 H1 ∧ (∀ i H, i ≤ xs.length → Pv i H → SqL K H a xs) ∧
    (∀ i x H, xs[i]? = some x → Pv i H → g x (wipe σ vs) H fun σ2 H2 => wipe σ2 vs = wipe σ vs ∧ tt σ2 H2 fun b H3 => if b = true then te σ2 H3 fun y H4 => rLcA D y H4 (Pv (i + 1)) else Pv (i + 1) H3) ∧
    ∀ H, Pv xs.length H → Q (.ref D) H) : LcJ (Itl K a) g tt te vs σ H Q := fun D hD =>
  let ⟨Pv, h0, hl, hs, hd⟩ := h D _ (S.new hD (.lst []))
  lc_list (H1 := H) Pv h0 hl hs hd
theorem x_lcapp {xs : List V} {R : Hp → Prop} (S : Sep H0 ft H l) (n : Nat) (h : l[n]? = some (t, p, .lst xs)) (hl : xs.length < 100000) (q : ∀ H', Sep H0 ft H' (l.set n (t, p, .lst (xs ++ [v]))) → R H') (ht : t = 1 ∨ t = 2 := by first | exact .inl rfl | exact .inr rfl) :
    rLcA p v H R := ⟨xs, S.get n h, Nat.lt_of_lt_of_le hl (by decide), q _ (S.put n _ h ht)⟩
theorem x_lcappI {cs : List Int} {R : Hp → Prop} (S : Sep H0 ft H l) (n : Nat) (h : l[n]? = some (t, p, .lst (cs.map V.int))) (hl : cs.length < 100000) (q : ∀ H', Sep H0 ft H' (l.set n (t, p, .lst ((cs ++ [i]).map V.int))) → R H') (ht : t = 1 ∨ t = 2 := by first | exact .inl rfl | exact .inr rfl) :
    rLcA p (.int i) H R := x_lcapp S n h (by rw [List.length_map]; exact hl) (fun H' S' => q H' (by rw [List.map_append]; exact S')) ht
theorem elem_of {α : Type} {f : α → V} {xs : List α} {n : Nat} {y : V} (h : (xs.map f)[n]? = some y) : ∃ z, xs[n]? = some z ∧ y = f z := by
  rw [List.getElem?_map] at h
  cases e : xs[n]? with
  | none => rw [e] at h; cases h
  | some z => rw [e] at h; exact ⟨z, rfl, (Option.some.inj h).symm⟩
theorem filter_snoc_pos {α : Type} {p : α → Bool} {xs : List α} {z : α} (h : p z = true) : xs.filter p ++ [z] = (xs ++ [z]).filter p := by rw [List.filter_append, List.filter_cons_of_pos h, List.filter_nil]
theorem filter_snoc_neg {α : Type} {p : α → Bool} {xs : List α} {z : α} (h : p z = false) : xs.filter p = (xs ++ [z]).filter p := by rw [List.filter_append, List.filter_cons_of_neg (by rw [h]; exact Bool.false_ne_true), List.filter_nil, List.append_nil]
theorem take_snoc {α : Type} {xs : List α} {n : Nat} {z : α} (h : xs[n]? = some z) : xs.take (n + 1) = xs.take n ++ [z] := by rw [List.take_add_one, h]; rfl
theorem lt_of_get {α : Type} {xs : List α} {n : Nat} {z : α} (h : xs[n]? = some z) : n < xs.length := (List.getElem?_eq_some_iff.mp h).1
theorem x_ifE {tt : TT} {ta tb : TE} (h : tt σ H fun c H1 => if c = true then ta σ H1 Q else tb σ H1 Q) : tIf tt ta tb σ H Q := h
/-- what follows a value is shown once -/
theorem x_ifx {tt : TT} {ta tb : TE} (R : V → Hp → Prop) (k : ∀ v H', R v H' → Q v H') (h : (∀ v H', R v H' → Q v H') → tIf tt ta tb σ H Q) : tIf tt ta tb σ H Q := h k
/-- what follows an if is shown once -/
theorem x_ifS {tc : TT} {t u : TS} {D : Ends} (R : L2.St → Hp → Prop) (k : ∀ σ H', R σ H' → D.nx σ H') (h : (∀ σ H', R σ H' → D.nx σ H') → tIfS tc t u D σ H) : tIfS tc t u D σ H := h k
theorem x_andV {ta tb : TE} (h : ta σ H fun x H1 => ∃ c, x = .bl c ∧ if c = true then tb σ H1 Q else Q (.bl false) H1) : tAndV ta tb σ H Q := h
theorem x_orV {ta tb : TE} (h : ta σ H fun x H1 => ∃ c, x = .bl c ∧ if c = true then Q (.bl true) H1 else tb σ H1 Q) : tOrV ta tb σ H Q := h
theorem x_and {t u : TT} {R : Bool → Hp → Prop} (h : t σ H fun c H1 => if c = true then u σ H1 R else R false H1) : tAnd t u σ H R := h
theorem x_or {t u : TT} {R : Bool → Hp → Prop} (h : t σ H fun c H1 => if c = true then R true H1 else u σ H1 R) : tOr t u σ H R := h
theorem x_turn {G : L2.St → Hp → Prop} {R : (L2.St → Hp → Prop) → Prop} (h : R G) : ∃ N : L2.St → Hp → Prop, (∀ σ' H', N σ' H' → G σ' H') ∧ R N := ⟨_, fun _ _ z => z, h⟩
theorem x_while {tc : TT} {tb : TS} {D : Ends} (W : Nat → L2.St → Hp → Prop) (m : Nat) (w : W m σ H) (h : ∀ m σ H, W m σ H → tc σ H fun b H1 => if b = true then ∃ N : L2.St → Hp → Prop, (∀ σ' H', N σ' H' → ∃ m', m' < m ∧ W m' σ' H') ∧ tb { D with nx := N, ct := N, bk := D.nx } σ H1 else D.nx σ H1) :
    tWhile tc tb D σ H := ⟨W, ⟨m, w⟩, h⟩
theorem x_part {R : Option Int → Hp → Prop} (q : R (some i) H) : ∃ j, V.int i = .int j ∧ R (some j) H := ⟨i, rfl, q⟩
theorem x_slL {xs : List V} {lo hi : Option Int} (S : Sep H0 ft H l) (n : Nat) (h : l[n]? = some (t, p, .lst xs)) (q : ∀ r H', Sep H0 ft H' ((2, r, .lst (cutV xs lo hi)) :: l) → Q (.ref r) H') : rSlL K (.ref p) lo hi H Q := ⟨p, xs, rfl, S.sl n h, x_new S _ q⟩
/-- a slice of a list of ints -/
def cutI {α : Type} (xs : List α) (lo hi : Option Int) : List α := (xs.drop (HT.sIx xs.length 0 lo)).take (HT.sIx xs.length xs.length hi - HT.sIx xs.length 0 lo)
theorem cutV_map {α : Type} (f : α → V) (xs : List α) (lo hi : Option Int) : cutV (xs.map f) lo hi = (cutI xs lo hi).map f := by
  unfold cutV cutI
  rw [List.length_map, ← List.map_drop, ← List.map_take]
theorem x_slI {cs : List Int} {lo hi : Option Int} (S : Sep H0 ft H l) (n : Nat) (h : l[n]? = some (t, p, .lst (cs.map V.int))) (q : ∀ r H', Sep H0 ft H' ((2, r, .lst ((cutI cs lo hi).map V.int)) :: l) → Q (.ref r) H') : rSlL K (.ref p) lo hi H Q :=
  ⟨p, _, rfl, S.sl n h, by rw [cutV_map]; exact x_new S _ q⟩
theorem cutI_nat {α : Type} (xs : List α) {i j : Int} (h0 : 0 ≤ i) (h1 : i ≤ j) (h2 : j ≤ xs.length) : cutI xs (some i) (some j) = (xs.drop i.toNat).take (j.toNat - i.toNat) := by
  unfold cutI
  have e1 : i = (i.toNat : Int) := by omega
  have e2 : j = (j.toNat : Int) := by omega
  rw [e1, e2, HT.sIx_nat, HT.sIx_nat, Nat.min_eq_left (by omega), Nat.min_eq_left (by omega), Int.toNat_natCast, Int.toNat_natCast]
def rMax2 : List V → Hp → VK → Prop := fun xs H Q => ∃ i j, xs = [.int i, .int j] ∧ Q (.int (max i j)) H
def rMin2 : List V → Hp → VK → Prop := fun xs H Q => ∃ i j, xs = [.int i, .int j] ∧ Q (.int (min i j)) H
theorem cl_max {X : Cx} (hc : X.calm = true) : CallR X (.builtin "max") rMax2 := fun pins s σ H xs us Q I r ⟨i, j, e, q⟩ => call_max2 hc pins s σ H xs us Q I r ⟨i, j, e, by
  have : (if j > i then j else i) = max i j := by split <;> omega
  rw [this]; exact q⟩
theorem cl_min {X : Cx} (hc : X.calm = true) : CallR X (.builtin "min") rMin2 := fun pins s σ H xs us Q I r ⟨i, j, e, q⟩ => call_min2 hc pins s σ H xs us Q I r ⟨i, j, e, by
  have : (if j < i then j else i) = min i j := by split <;> omega
  rw [this]; exact q⟩
theorem x_max (q : Q (.int (max i j)) H) : rMax2 [.int i, .int j] H Q := ⟨i, j, rfl, q⟩
theorem x_min (q : Q (.int (min i j)) H) : rMin2 [.int i, .int j] H Q := ⟨i, j, rfl, q⟩
/-- what the rules ask, under names -/
def rIL (K : PySem.W.Frag) : V → Hp → (It → Hp → Prop) → Prop := fun x H R => ∃ a, x = .ref a ∧ (∃ xs, SqL K H a xs) ∧ R (Itl K a) H
def rIT (K : PySem.W.Frag) : V → Hp → (It → Hp → Prop) → Prop := fun x H R => ∃ a, x = .ref a ∧ (∃ xs, SqT K H a xs) ∧ R (Itt K a) H
def iList1 (K : PySem.W.Frag) (tl : TE) : TI := fun σ H R => tl σ H fun x H1 => rIL K x H1 R
def iTup1 (K : PySem.W.Frag) (tl : TE) : TI := fun σ H R => tl σ H fun x H1 => rIT K x H1 R
theorem pi_list1 {X : Cx} {tg e : Expr} {tl : TE} (h : PE X e tl) : PI X tg e (iList1 X.K tl) := pi_list h
theorem pi_tup1 {X : Cx} {tg e : Expr} {tl : TE} (h : PE X e tl) : PI X tg e (iTup1 X.K tl) := pi_tup h

def rLst : List V → Hp → VK → Prop := fun xs H Q => xs.length ≤ sizeLine ∧ ∀ p, H p = none → Q (.ref p) (upd H p (.lst xs))
def rTup : List V → Hp → VK → Prop := fun xs H Q => xs.length ≤ sizeLine ∧ ∀ p, H p = none → Q (.ref p) (upd H p (.tup xs))
theorem pe_lst1 {X : Cx} {es : List Expr} {t : TA} {pos : Pos} (h : PA X es t) : PE X (.List es pos) (tCB rLst t) := pe_lst h
theorem pe_tup1 {X : Cx} {es : List Expr} {t : TA} {pos : Pos} {x1} (h : PA X es t) : PE X (.Tuple es x1 pos) (tCB rTup t) := pe_tup h
def rFld (K : PySem.W.Frag) (f : Str) : V → Hp → VK → Prop := fun x H Q => ∃ a C dx fs v, x = .ref a ∧ H a = some (.ins C dx fs) ∧ Cls K C ∧ NoAttr K C f ∧ fs.lookup f = some v ∧ Q v H
def rFldA (K : PySem.W.Frag) (f : Str) : V → Hp → (Addr → Addr → V → Prop) → Prop := fun x H R => ∃ a C dx fs v, x = .ref a ∧ H a = some (.ins C dx fs) ∧ Cls K C ∧ NoAttr K C f ∧ fs.lookup f = some v ∧ R a C v
def rPutA (f : Str) (a C : Addr) : V → Hp → (Hp → Prop) → Prop := fun z H R => ∃ dx fs, H a = some (.ins C dx fs) ∧ fs.length < 1000 ∧ R (upd H a (.ins C dx (putF f z fs)))
def rSFld (K : PySem.W.Frag) (f : Str) : V → V → Hp → (Hp → Prop) → Prop := fun x y H R => ∃ a C dx fs, x = .ref a ∧ H a = some (.ins C dx fs) ∧ Cls K C ∧ NoAttr K C f ∧ fs.length < 1000 ∧ R (upd H a (.ins C dx (putF f y fs)))
def sFld1 (K : PySem.W.Frag) (ta tv : TE) (f : Str) : TS := fun D σ H => tv σ H fun y H1 => ta σ H1 fun x H2 => rSFld K f x y H2 fun H3 => D.nx σ H3
def sFldAug1 (K : PySem.W.Frag) (ta tv : TE) (rd : V → V → Hp → VK → Prop) (f : Str) : TS := fun D σ H => ta σ H fun x H1 => rFldA K f x H1 fun a C v => tv σ H1 fun y H2 => rd v y H2 fun z H3 => rPutA f a C z H3 fun H4 => D.nx σ H4
def rMe (C : Addr) (m : Str) : V → Hp → Prop → Prop := fun x H R => ∃ a dx fs, x = .ref a ∧ H a = some (.ins C dx fs) ∧ fs.lookup m = none ∧ R
def tMeth1 (C : Addr) (m : Str) (sp : Sp) (dvs : List V) (E : XK) (ta : TE) (t : TA) : TE := fun σ H Q => ta σ H fun x H1 => rMe C m x H1 (t σ H1 fun vs H2 => sp (x :: (vs ++ dvs)) H2 Q E)
def rDIn : V → V → Hp → VK → Prop := fun y x H Q => ∃ a o, x = .ref a ∧ DGet H a y o ∧ Q (.bl o.isSome) H
def rDNi : V → V → Hp → VK → Prop := fun y x H Q => ∃ a o, x = .ref a ∧ DGet H a y o ∧ Q (.bl (!o.isSome)) H
def rDGet : V → V → Hp → VK → Prop := fun x y H Q => ∃ a v, x = .ref a ∧ DGet H a y (some v) ∧ Q v H
def rDPut : V → V → V → Hp → (Hp → Prop) → Prop := fun x y v H R => ∃ a H4, x = .ref a ∧ DPut H a y v H4 ∧ R H4
def sDPut1 (td ty tv : TE) : TS := fun D σ H => tv σ H fun v H1 => td σ H1 fun x H2 => ty σ H2 fun y H3 => rDPut x y v H3 fun H4 => D.nx σ H4
def rDPop (a : Addr) : V → Hp → VK → Prop := fun y H Q => ∃ kvs k v, H a = some (.dK kvs) ∧ y = kV k ∧ valV kvs k = some v ∧ Q v (upd H a (.dK (dropK kvs k)))
def rIsD : V → Hp → (Addr → Prop) → Prop := fun x H R => ∃ a, x = .ref a ∧ IsD H a ∧ R a
def tDPop (td ty : TE) : TE := fun σ H Q => td σ H fun x H1 => rIsD x H1 fun a => ty σ H1 fun y H2 => rDPop a y H2 Q
section
variable {X : Cx} {CX : CXT} {k j : Nat} {C : Addr} {f m : Str} {sp : Sp} {E : XK} {p pos pos' apos tpos cpos : Pos} {e i value : Expr} {es : List Expr} {td ty tv : TE} {ta : TE} {t : TA}
theorem pe_fld1 (he : PE X e ta) (hb : attributeBase e f X.env (eval e X.env) = eval e X.env) : PE X (.Attribute e f pos) (tUn (rFld X.K f) ta) := pe_fld he hb
theorem ps_fld1 (ha : PE X e ta) (hv : PE X value tv) (hs : swapsWith value (some (.Attribute e f pos')) pos.line X.env = pure false) : PS X (.Assign [.Attribute e f pos'] value pos) (sFld1 X.K ta tv f) := ps_fld ha hv hs
theorem ps_fldaug1 {op : Operator} {rd : V → V → Hp → VK → Prop} (ha : PE X e ta) (hv : PE X value tv) (hop : InOp X op rd) : PS X (.AugAssign (.Attribute e f tpos) op value pos) (sFldAug1 X.K ta tv rd f) := ps_fldaug ha hv hop
theorem pc_din1 (hu : X.A.units + 1 < cLine) (hi : PE X i ty) (ho : PE X e td) : PC X .In i e (tOp rDIn ty td) := pc_din hu hi ho
theorem pc_dni1 (hu : X.A.units + 1 < cLine) (hi : PE X i ty) (ho : PE X e td) : PC X .NotIn i e (tOp rDNi ty td) := pc_dnotin hu hi ho
theorem pe_dget1v (hu : X.A.units + 1 < cLine) (ho : PE X e td) (hi : PE X i ty) (hs : NoSl i) : PE X (.Subscript e i pos) (tOp rDGet td ty) := pe_dget hu ho hi hs
theorem ps_dput1 (hu : X.A.units + 1 < cLine) (ho : PE X e td) (hi : PE X i ty) (hv : PE X value tv) (hs : swapsWith value (some (.Subscript e i pos')) pos.line X.env = pure false) : PS X (.Assign [.Subscript e i pos'] value pos) (sDPut1 td ty tv) := ps_dput hu ho hi hv hs
theorem pe_dpop (ho : PE X e td) (he : PE X i ty) (m : M1 X e "pop" apos i cpos) : PE X (.Call (.Attribute e "pop" apos) [i] [] cpos) (tDPop td ty) := pe_dpop1 ho he m
end
theorem x_lst {xs : List V} (S : Sep H0 ft H l) (hl : xs.length ≤ 100000) (q : ∀ p H', Sep H0 ft H' ((2, p, .lst xs) :: l) → Q (.ref p) H') : rLst xs H Q := ⟨Nat.le_trans hl (by decide), x_new S _ q⟩
theorem x_tup {xs : List V} (S : Sep H0 ft H l) (hl : xs.length ≤ 100000) (q : ∀ p H', Sep H0 ft H' ((2, p, .tup xs) :: l) → Q (.ref p) H') : rTup xs H Q := ⟨Nat.le_trans hl (by decide), x_new S _ q⟩
theorem x_dnew (S : Sep H0 ft H l) (q : ∀ p H', Sep H0 ft H' ((2, p, .dK []) :: l) → Q (.ref p) H') : tDNewK σ H Q := x_new S _ q
def rListOf (K : PySem.W.Frag) : List V → Hp → VK → Prop := fun xs H Q => ∃ p ys, xs = [.ref p] ∧ (SqL K H p ys ∨ SqT K H p ys) ∧ ∀ l, H l = none → Q (.ref l) (upd H l (.lst ys))
theorem cl_list {X : Cx} : CallR X (.type "list") (rListOf X.K) := call_list_of
theorem x_listS {xs : List V} (S : Sep H0 ft H l) (hs : SqL K H p xs) (q : ∀ r H', Sep H0 ft H' ((2, r, .lst xs) :: l) → Q (.ref r) H') : rListOf K [.ref p] H Q := ⟨p, xs, rfl, .inl hs, x_new S _ q⟩
/-- isinstance -/
theorem x_isi {A B : String} {b : Bool} (ty : TyX K H x (.type A)) (h : kitB A B = some b) (q : Q (.bl b) H) : rIsi K [x, .ty B] H Q := ⟨x, .ty B, .type A, .type B, b, rfl, .ty B, ty, kit_ty h, q⟩
theorem cl_isiK {X : Cx} (K : PySem.W.Frag) (h : X.K = K := by rfl) : CallR X (.builtin "isinstance") (rIsi K) := by subst h; exact call_isi
theorem ty_int : TyX K H (.int i) (.type "int") := .base (.int i)
theorem ty_bl {b : Bool} : TyX K H (.bl b) (.type "bool") := .base (.bl b)
theorem ty_str {z : Str} : TyX K H (.str z) (.type "str") := .base (.str z)
theorem ty_non : TyX K H .non (.type "NoneType") := .base .non
theorem ty_tup {xs : List V} (S : Sep H0 ft H l) (n : Nat) (h : l[n]? = some (t, p, .tup xs)) : TyX K H (.ref p) (.type "tuple") := .base (.tup (S.get n h))
theorem ty_lst {xs : List V} (S : Sep H0 ft H l) (n : Nat) (h : l[n]? = some (t, p, .lst xs)) : TyX K H (.ref p) (.type "list") := .base (.lst (S.get n h))
theorem ty_dK {kvs : List (Key × V)} (S : Sep H0 ft H l) (n : Nat) (h : l[n]? = some (t, p, .dK kvs)) : TyX K H (.ref p) (.type "dict") := .base (.dK (S.get n h))
theorem ki_int_int : kitB "int" "int" = some true := by decide +kernel
theorem ki_int_bool : kitB "int" "bool" = some false := by decide +kernel
theorem ki_int_str : kitB "int" "str" = some false := by decide +kernel
theorem ki_int_tuple : kitB "int" "tuple" = some false := by decide +kernel
theorem ki_bool_bool : kitB "bool" "bool" = some true := by decide +kernel
theorem ki_bool_int : kitB "bool" "int" = some true := by decide +kernel
theorem ki_tuple_tuple : kitB "tuple" "tuple" = some true := by decide +kernel
theorem ki_list_list : kitB "list" "list" = some true := by decide +kernel
theorem ki_dict_dict : kitB "dict" "dict" = some true := by decide +kernel
theorem ki_str_str : kitB "str" "str" = some true := by decide +kernel
theorem ki_str_int : kitB "str" "int" = some false := by decide +kernel
theorem ki_NoneType_int : kitB "NoneType" "int" = some false := by decide +kernel
/-! the rules over the written part K, said -/
section
variable {X : Cx} {e : Expr} {tl : TE} {tg : Expr} {f : Str} {pos : Pos}
theorem cl_lenK (K : PySem.W.Frag) (h : X.K = K := by rfl) : CallR X (.builtin "len") (rLen K) := by subst h; exact cl_len
theorem cl_listK (K : PySem.W.Frag) (h : X.K = K := by rfl) : CallR X (.type "list") (rListOf K) := by subst h; exact cl_list
theorem ix_listK (K : PySem.W.Frag) (h : X.K = K := by rfl) : IxR X (rIxL K) := by subst h; exact ix_list
theorem ix_tupK (K : PySem.W.Frag) (h : X.K = K := by rfl) : IxR X (rIxT K) := by subst h; exact ix_tup
theorem sl_listK (K : PySem.W.Frag) (h : X.K = K := by rfl) : SlR X (rSlL K) := by subst h; exact sl_list
theorem sl_tupK (K : PySem.W.Frag) (h : X.K = K := by rfl) : SlR X (rSlT K) := by subst h; exact sl_tup
theorem op_eqDK (K : PySem.W.Frag) (hu : X.A.units + 64 < cLine) (h : X.K = K := by rfl) : OpR X (compareOp .Eq) (rEqD K) := by subst h; exact op_eqD hu
theorem op_neDK (K : PySem.W.Frag) (hu : X.A.units + 64 < cLine) (h : X.K = K := by rfl) : OpR X (compareOp .NotEq) (rNeD K) := by subst h; exact op_neD hu
theorem pe_fldK (K : PySem.W.Frag) (he : PE X e tl) (hb : attributeBase e f X.env (eval e X.env) = eval e X.env := by rfl) (h : X.K = K := by rfl) : PE X (.Attribute e f pos) (tUn (rFld K f) tl) := by subst h; exact pe_fld1 he hb
theorem pi_listK (K : PySem.W.Frag) (he : PE X e tl) (h : X.K = K := by rfl) : PI X tg e (iList1 K tl) := by subst h; exact pi_list1 he
theorem pi_tupK (K : PySem.W.Frag) (he : PE X e tl) (h : X.K = K := by rfl) : PI X tg e (iTup1 K tl) := by subst h; exact pi_tup1 he
end
theorem x_ilist {xs : List V} {R : It → Hp → Prop} (S : Sep H0 ft H l) (n : Nat) (h : l[n]? = some (t, p, .lst xs)) (q : R (Itl K p) H) : rIL K (.ref p) H R := ⟨p, rfl, ⟨xs, S.sl n h⟩, q⟩
theorem x_itup {xs : List V} {R : It → Hp → Prop} (S : Sep H0 ft H l) (n : Nat) (h : l[n]? = some (t, p, .tup xs)) (q : R (Itt K p) H) : rIT K (.ref p) H R := ⟨p, rfl, ⟨xs, S.st n h⟩, q⟩
/-- dicts -/
theorem x_din {kvs : List (Key × V)} {k : Key} (S : Sep H0 ft H l) (n : Nat) (h : l[n]? = some (t, p, .dK kvs)) (q : Q (.bl (valV kvs k).isSome) H) : rDIn (kV k) (.ref p) H Q := ⟨p, _, rfl, DGet.k (S.get n h), q⟩
theorem x_dni {kvs : List (Key × V)} {k : Key} (S : Sep H0 ft H l) (n : Nat) (h : l[n]? = some (t, p, .dK kvs)) (q : Q (.bl (!(valV kvs k).isSome)) H) : rDNi (kV k) (.ref p) H Q := ⟨p, _, rfl, DGet.k (S.get n h), q⟩
theorem x_dget {kvs : List (Key × V)} {k : Key} (S : Sep H0 ft H l) (n : Nat) (h : l[n]? = some (t, p, .dK kvs)) (hv : valV kvs k = some v) (q : Q v H) : rDGet (.ref p) (kV k) H Q := ⟨p, v, rfl, by rw [← hv]; exact DGet.k (S.get n h), q⟩
theorem x_dput {kvs : List (Key × V)} {k : Key} {R : Hp → Prop} (S : Sep H0 ft H l) (n : Nat) (h : l[n]? = some (t, p, .dK kvs)) (hl : kvs.length < 100000) (q : ∀ H', Sep H0 ft H' (l.set n (t, p, .dK (putK kvs k v))) → R H')
    (ht : t = 1 ∨ t = 2 := by first | exact .inl rfl | exact .inr rfl) : rDPut (.ref p) (kV k) v H R := ⟨p, _, rfl, DPut.k (S.get n h) (Nat.lt_of_lt_of_le hl (by decide)), q _ (S.put n _ h ht)⟩
theorem x_isD {kvs : List (Key × V)} {R : Addr → Prop} (S : Sep H0 ft H l) (n : Nat) (h : l[n]? = some (t, p, .dK kvs)) (q : R p) : rIsD (.ref p) H R := ⟨p, rfl, .inl ⟨_, .inl (S.get n h)⟩, q⟩
theorem x_dpop {kvs : List (Key × V)} {k : Key} (S : Sep H0 ft H l) (n : Nat) (h : l[n]? = some (t, p, .dK kvs)) (hv : valV kvs k = some v) (q : ∀ H', Sep H0 ft H' (l.set n (t, p, .dK (dropK kvs k))) → Q v H')
    (ht : t = 1 ∨ t = 2 := by first | exact .inl rfl | exact .inr rfl) : rDPop p (kV k) H Q := ⟨kvs, k, v, S.get n h, rfl, hv, q _ (S.put n _ h ht)⟩
/-- fields -/
theorem x_fld {C dx : Addr} {fs : List (Str × V)} {f : Str} (S : Sep H0 ft H l) (n : Nat) (h : l[n]? = some (t, p, .ins C dx fs)) (c : Cls K C) (na : NoAttr K C f) (hf : fs.lookup f = some v) (q : Q v H) : rFld K f (.ref p) H Q := ⟨p, C, dx, fs, v, rfl, S.get n h, c, na, hf, q⟩
theorem x_fldA {C dx : Addr} {fs : List (Str × V)} {f : Str} {R : Addr → Addr → V → Prop} (S : Sep H0 ft H l) (n : Nat) (h : l[n]? = some (t, p, .ins C dx fs)) (c : Cls K C) (na : NoAttr K C f) (hf : fs.lookup f = some v) (q : R p C v) : rFldA K f (.ref p) H R := ⟨p, C, dx, fs, v, rfl, S.get n h, c, na, hf, q⟩
theorem x_sfld {C dx : Addr} {fs fs' : List (Str × V)} {f : Str} {R : Hp → Prop} (S : Sep H0 ft H l) (n : Nat) (h : l[n]? = some (t, p, .ins C dx fs)) (c : Cls K C) (na : NoAttr K C f) (e : putF f v fs = fs') (hl : fs.length < 1000) (q : ∀ H', Sep H0 ft H' (l.set n (t, p, .ins C dx fs')) → R H')
    (ht : t = 1 ∨ t = 2 := by first | exact .inl rfl | exact .inr rfl) : rSFld K f (.ref p) v H R :=
  ⟨p, C, dx, fs, rfl, S.get n h, c, na, hl, by rw [e]; exact q _ (S.put n _ h ht)⟩
theorem x_augf {C dx : Addr} {fs fs' : List (Str × V)} {f : Str} {R : Hp → Prop} (S : Sep H0 ft H l) (n : Nat) (h : l[n]? = some (t, p, .ins C dx fs)) (e : putF f v fs = fs') (hl : fs.length < 1000) (q : ∀ H', Sep H0 ft H' (l.set n (t, p, .ins C dx fs')) → R H')
    (ht : t = 1 ∨ t = 2 := by first | exact .inl rfl | exact .inr rfl) : rPutA f p C v H R :=
  ⟨dx, fs, S.get n h, hl, by rw [e]; exact q _ (S.put n _ h ht)⟩
theorem x_meth {C dx : Addr} {fs : List (Str × V)} {m : Str} {R : Prop} (S : Sep H0 ft H l) (n : Nat) (h : l[n]? = some (t, p, .ins C dx fs)) (hl : fs.lookup m = none) (q : R) : rMe C m (.ref p) H R := ⟨p, dx, fs, rfl, S.get n h, hl, q⟩
theorem x_add (q : Q (.int (i + j)) H) : rAdd (.int i) (.int j) H Q := ⟨i, j, rfl, rfl, q⟩
theorem x_sub (q : Q (.int (i - j)) H) : rSub (.int i) (.int j) H Q := ⟨i, j, rfl, rfl, q⟩
/-- lists' methods -/
theorem x_app {xs : List V} (S : Sep H0 ft H l) (n : Nat) (h : l[n]? = some (t, p, .lst xs)) (hl : xs.length < 100000) (q : ∀ H', Sep H0 ft H' (l.set n (t, p, .lst (xs ++ [v]))) → Q .non H') (ht : t = 1 ∨ t = 2 := by first | exact .inl rfl | exact .inr rfl) :
    rAppend (.ref p) [v] H Q := ⟨p, xs, v, rfl, rfl, S.get n h, Nat.lt_of_lt_of_le hl (by decide), q _ (S.put n _ h ht)⟩
theorem x_ty {xs : List V} (S : Sep H0 ft H l) (n : Nat) (h : l[n]? = some (t, p, .lst xs)) : tyV K "list" (.ref p) H := .inl ⟨rfl, xs, S.sl n h⟩
def rInsert : V → List V → Hp → VK → Prop := fun x vs H Q => ∃ (l : Addr) (xs : List V) (i : Int) (y : V), x = .ref l ∧ vs = [.int i, y] ∧ H l = some (.lst xs) ∧ xs.length < sizeLine ∧ 0 ≤ i ∧ i < 2 ^ 63 ∧ Q .non (upd H l (.lst (xs.take i.toNat ++ [y] ++ xs.drop i.toNat)))
theorem mt_ins {X : Cx} : MtR X "list.insert" rInsert := mt_insert
theorem x_ins {xs : List V} (S : Sep H0 ft H l) (n : Nat) (h : l[n]? = some (t, p, .lst xs)) (hl : xs.length < 100000) (h0 : 0 ≤ i) (h1 : i < 2 ^ 63) (q : ∀ H', Sep H0 ft H' (l.set n (t, p, .lst (xs.take i.toNat ++ [v] ++ xs.drop i.toNat))) → Q .non H')
    (ht : t = 1 ∨ t = 2 := by first | exact .inl rfl | exact .inr rfl) : rInsert (.ref p) [.int i, v] H Q := ⟨p, xs, i, v, rfl, rfl, S.get n h, Nat.lt_of_lt_of_le hl (by decide), h0, h1, q _ (S.put n _ h ht)⟩
/-- a list of ints with one put in -/
def insAt {α : Type} (ys : List α) (i : Int) (v : α) : List α := ys.take i.toNat ++ [v] ++ ys.drop i.toNat
theorem mem_insAt {α : Type} {ys : List α} {i : Int} {v x : α} : x ∈ insAt ys i v ↔ x = v ∨ x ∈ ys := by
  unfold insAt
  rw [List.append_assoc, List.mem_append, List.mem_append, List.mem_singleton]
  constructor
  · rintro (h | h | h)
    · exact .inr (List.mem_of_mem_take h)
    · exact .inl h
    · exact .inr (List.mem_of_mem_drop h)
  · rintro (h | h)
    · exact .inr (.inl h)
    · rw [← List.take_append_drop i.toNat ys] at h
      rcases List.mem_append.mp h with h | h
      · exact .inl h
      · exact .inr (.inr h)
theorem len_insAt {α : Type} {ys : List α} {i : Int} {v : α} : (insAt ys i v).length = ys.length + 1 := by
  unfold insAt
  rw [List.length_append, List.length_append, List.length_take, List.length_drop, List.length_singleton]
  omega
theorem insAt_map {α : Type} (f : α → V) (ys : List α) (i : Int) (v : α) : (ys.map f).take i.toNat ++ [f v] ++ (ys.map f).drop i.toNat = (insAt ys i v).map f := by
  unfold insAt
  rw [List.map_append, List.map_append, List.map_take, List.map_drop, List.map_singleton]
theorem x_insI {cs : List Int} (S : Sep H0 ft H l) (n : Nat) (h : l[n]? = some (t, p, .lst (cs.map V.int))) (hl : cs.length < 100000) (h0 : 0 ≤ i) (h1 : i < 2 ^ 63) (q : ∀ H', Sep H0 ft H' (l.set n (t, p, .lst ((insAt cs i j).map V.int))) → Q .non H')
    (ht : t = 1 ∨ t = 2 := by first | exact .inl rfl | exact .inr rfl) : rInsert (.ref p) [.int i, .int j] H Q := by
  refine x_ins S n h (by rw [List.length_map]; exact hl) h0 h1 (fun H' S' => q H' ?_) ht
  rw [insAt_map] at S'
  exact S'
/-- data compared -/
theorem dp_ints {ns : List Int} : DpAll K H (ns.map V.int) (ns.map PyData.int) := by
  induction ns with
  | nil => exact .nil
  | cons n r ih => exact .cons (.int n) ih
theorem lay_ints : ∀ ns : List Int, PyData.canLayAll0 (ns.map PyData.int) = true
  | [] => rfl
  | n :: r => lay_ints r
theorem dep_ints : ∀ ns : List Int, PyData.depthAll (ns.map PyData.int) = 0
  | [] => rfl
  | n :: r => by rw [List.map_cons, PyData.depthAll, dep_ints r]; rfl
theorem sh_list (ns : List Int) : SeqAt.shaped (.list (ns.map PyData.int)) = true := by
  unfold SeqAt.shaped
  rw [show PyData.canLay0 (.list (ns.map PyData.int)) = true from lay_ints ns, PyData.depth, dep_ints]
  rfl
theorem sh_tup (ns : List Int) : SeqAt.shaped (.tuple (ns.map PyData.int)) = true := by
  unfold SeqAt.shaped
  rw [show PyData.canLay0 (.tuple (ns.map PyData.int)) = true from lay_ints ns, PyData.depth, dep_ints]
  rfl
theorem eqv_list (ns ms : List Int) : PyData.eqv (.list (ns.map PyData.int)) (.list (ms.map PyData.int)) = decide (ns = ms) := PySem.W.Datum.eqv (α := List Int) ns ms
theorem eqv_tup (ns ms : List Int) : PyData.eqv (.tuple (ns.map PyData.int)) (.tuple (ms.map PyData.int)) = decide (ns = ms) := by
  have := PySem.W.Datum.eqv (α := PySem.W.Tup Int) ⟨ns⟩ ⟨ms⟩
  rw [show PyData.eqv (.tuple (ns.map PyData.int)) (.tuple (ms.map PyData.int)) = decide ((⟨ns⟩ : PySem.W.Tup Int) = ⟨ms⟩) from this]
  exact decide_eq_decide.mpr ⟨fun e => congrArg PySem.W.Tup.items e, fun e => by rw [e]⟩
theorem x_neSq {q : Addr} {xs ys : List Int} (hx : SqL K H p (xs.map V.int)) (hy : SqL K H q (ys.map V.int)) (k : Q (.bl (!decide (xs = ys))) H) : rNeD K (.ref p) (.ref q) H Q :=
  ⟨_, _, .lst hx dp_ints, .lst hy dp_ints, sh_list xs, sh_list ys, by rw [eqv_list]; exact k⟩
theorem x_neL {q : Addr} {xs ys : List Int} {t' : Nat} (S : Sep H0 ft H l) (n m : Nat) (h : l[n]? = some (t, p, .lst (xs.map V.int))) (h' : l[m]? = some (t', q, .lst (ys.map V.int))) (k : Q (.bl (!decide (xs = ys))) H) : rNeD K (.ref p) (.ref q) H Q :=
  x_neSq (S.sl n h) (S.sl m h') k
theorem x_eqP {q : Addr} {a b c d : Int} {t' : Nat} (S : Sep H0 ft H l) (n m : Nat) (h : l[n]? = some (t, p, .tup [.int a, .int b])) (h' : l[m]? = some (t', q, .tup [.int c, .int d])) (k : Q (.bl (decide (([a, b] : List Int) = [c, d]))) H) : rEqD K (.ref p) (.ref q) H Q :=
  ⟨_, _, .tup (S.st n h) (dp_ints (ns := [a, b])), .tup (S.st m h') (dp_ints (ns := [c, d])), sh_tup _, sh_tup _, by rw [eqv_tup]; exact k⟩
theorem x_neP {q : Addr} {a b c d : Int} {t' : Nat} (S : Sep H0 ft H l) (n m : Nat) (h : l[n]? = some (t, p, .tup [.int a, .int b])) (h' : l[m]? = some (t', q, .tup [.int c, .int d])) (k : Q (.bl (!decide (([a, b] : List Int) = [c, d]))) H) : rNeD K (.ref p) (.ref q) H Q :=
  ⟨_, _, .tup (S.st n h) (dp_ints (ns := [a, b])), .tup (S.st m h') (dp_ints (ns := [c, d])), sh_tup _, sh_tup _, by rw [eqv_tup]; exact k⟩
end
/-! ### defs as facts -/
structure Cal (P : Program) (w : World) (K : PySem.W.Frag) (mg : Str → Option Value) (base : Heap) (CX : CXT) (k : Nat) (x : Str) (sp : Sp) : Prop where
  ex : ∃ (f : Addr) (fd : FuncData) (ps : List Str), FnOk P w K mg base CX k f fd ps sp ∧ mg x = some (.ref f) ∧ PySem.W.keepIn K (.ref f) = true ∧ Binds K fd ps []
structure Met (P : Program) (w : World) (K : PySem.W.Frag) (mg : Str → Option Value) (base : Heap) (CX : CXT) (k : Nat) (C : Addr) (m : Str) (sp : Sp) : Prop where
  ex : ∃ (f : Addr) (fd : FuncData) (ps : List Str), Cls K C ∧ L2.Meth K C m f ∧ FnOk P w K mg base CX k f fd ps sp ∧ Binds K fd ps []
/-- C(k = v, ..): all keyword-only, no other parameters -/
structure MakK (P : Program) (w : World) (K : PySem.W.Frag) (mg : Str → Option Value) (base : Heap) (CX : CXT) (k : Nat) (x : Str) (C : Addr) (ks : List Str) (sp : Sp) : Prop where
  ex : ∃ (f : Addr) (fd : FuncData) (ps : List Str) (g : List Value → List Value → List Value), Mk K C f ∧ FnOk P w K mg base CX k f fd ps sp ∧ mg x = some (.ref C) ∧ KBn K fd ps 1 ks g (fun vs zs => vs ++ zs)
section
variable {X : Cx} {CX : CXT} {k j : Nat} {C : Addr} {x m : Str} {sp : Sp} {E : XK} {p pos apos : Pos} {e o : Expr} {es : List Expr} {kws : List Keyword} {ks : List Str} {ta : TE} {t tk : TA}
theorem pe_c (c : Cal X.prog X.w X.K X.mg X.base CX k x sp) (hr : Room j X.A) (hk : k ≤ j) (hg : Gl X x) (hx : Passes CX X E) (ha : PA X (e :: es) t)
    (hdb : (x == ("__debug__" : Str)) = false := by decide) (he : starEach (e :: es) X.env = (false, eval e X.env) :: starEach es X.env := by rfl) (hpl : (backTo pos (starEach es X.env)).any (·.1) = false := by rfl) :
    PE X (.Call (.Name x p) (e :: es) [] pos) (tCall sp [] E t) := by
  obtain ⟨f, fd, ps, F, hm, kp, b⟩ := c.ex
  exact pe_call F (hr.mono hk) hg hm kp b .nil hx ha hdb he hpl
theorem pe_mt {pl : Sem Bool} (c : Met X.prog X.w X.K X.mg X.base CX k C m sp) (hr : Room j X.A) (hk : k ≤ j) (hx : Passes CX X E) (he : PE X o ta) (ha : PA X (e :: es) t)
    (hst : starEach (e :: es) X.env = (false, eval e X.env) :: starEach es X.env := by rfl) (hpl : (backTo pos (starEach es X.env)).any (·.1) = false := by rfl)
    (ht : eval (.Call (.Attribute o m apos) (e :: es) [] pos) X.env = (do
      let ov ← eval o X.env
      standAt apos.atName
      let (f, first) ← holding [ov] (getMethod ov m pl)
      callWith pos f first (backTo pos (starEach (e :: es) X.env)) (backToKw pos (keywordEach [] X.env))) := by rfl) :
    PE X (.Call (.Attribute o m apos) (e :: es) [] pos) (tMeth1 C m sp [] E ta t) := by
  obtain ⟨f, fd, ps, hc, hm, F, b⟩ := c.ex
  exact pe_meth (pl := pl) he hc hm F (hr.mono hk) b .nil hx ha hst hpl ht
theorem pe_mt0 {pl : Sem Bool} (c : Met X.prog X.w X.K X.mg X.base CX k C m sp) (hr : Room j X.A) (hk : k ≤ j) (hx : Passes CX X E) (he : PE X o ta)
    (ht : eval (.Call (.Attribute o m apos) [] [] pos) X.env = (do
      let ov ← eval o X.env
      standAt apos.atName
      let (f, first) ← holding [ov] (getMethod ov m pl)
      callWith pos f first (backTo pos (starEach [] X.env)) (backToKw pos (keywordEach [] X.env))) := by rfl) :
    PE X (.Call (.Attribute o m apos) [] [] pos) (tMeth1 C m sp [] E ta tNil) := by
  obtain ⟨f, fd, ps, hc, hm, F, b⟩ := c.ex
  exact pe_meth0 (pl := pl) he hc hm F (hr.mono hk) b .nil hx ht
def rMkK (C : Addr) (n m : Nat) (sp : Sp) (gV : List V → List V → List V) (E : XK) : List V → List V → Hp → VK → Prop := fun vs zs H Q => vs.length = n ∧ zs.length = m ∧ ∀ x dx, H x = none → H dx = none → dx ≠ x →
  sp (gV (.ref x :: vs) zs) (upd (upd H dx (.own x)) x (.ins C dx [])) (fun v H3 => v = .non ∧ Q (.ref x) H3) E
def tMakeK1 (C : Addr) (n m : Nat) (sp : Sp) (gV : List V → List V → List V) (E : XK) (t tk : TA) : TE := fun σ H Q => t σ H fun vs H1 => tk σ H1 fun zs H2 => rMkK C n m sp gV E vs zs H2 Q
theorem pe_mkK (c : MakK X.prog X.w X.K X.mg X.base CX k x C ks sp) (hr : Room j X.A) (hk : k + 1 ≤ j) (hg : Gl X x) (hx : Passes CX X E) (hkw : PK X kws tk)
    (hall : (backToKw pos (keywordEach kws X.env)).all (·.1.isSome) = true := by rfl) (hks : (backToKw pos (keywordEach kws X.env)).filterMap (·.1) = ks := by rfl) (hdb : (x == ("__debug__" : Str)) = false := by decide)
    (hpl : ((backTo pos (starEach [] X.env)).any (·.1) || (backToKw pos (keywordEach kws X.env)).any (·.1.isNone)) = false := by rfl) :
    PE X (.Call (.Name x p) [] kws pos) (tMakeK1 C 0 ks.length sp (fun vs zs => vs ++ zs) E tNil tk) := by
  obtain ⟨f, fd, ps, g, M, F, hm, b⟩ := c.ex
  exact pe_makeK0 M F (hr.mono hk) hg hm b hx hkw hall hks hdb hpl
end
/-! ### calls by keywords -/
/-- the keywords' values in the parameters' order -/
def kwp (is : List Nat) {α : Type} (ws : List α) : List α := is.filterMap (ws[·]?)
theorem kwp_vals : ∀ (is : List Nat) {zs : List V} {ws : List Value}, L2.Vals zs ws → L2.Vals (kwp is zs) (kwp is ws)
  | [], _, _, _ => .nil
  | i :: r, zs, ws, h => by
    unfold kwp
    cases e : zs[i]? with
    | none =>
      rw [List.filterMap_cons_none e, List.filterMap_cons_none (h.none_of e)]
      exact kwp_vals r h
    | some v =>
      obtain ⟨u, e2, rv⟩ := h.get e
      rw [List.filterMap_cons_some e, List.filterMap_cons_some e2]
      exact .cons rv (kwp_vals r h)
/-- o.m(k = v, ..) -/
structure MetK (P : Program) (w : World) (K : PySem.W.Frag) (mg : Str → Option Value) (base : Heap) (CX : CXT) (k : Nat) (C : Addr) (m : Str) (ks : List Str) (is : List Nat) (sp : Sp) : Prop where
  ex : ∃ (f : Addr) (fd : FuncData) (ps : List Str), Cls K C ∧ L2.Meth K C m f ∧ FnOk P w K mg base CX k f fd ps sp ∧ KBn K fd ps 1 ks (fun us ws => us ++ kwp is ws) (fun vs zs => vs ++ kwp is zs)
/-- f(k = v, ..) -/
structure CalK (P : Program) (w : World) (K : PySem.W.Frag) (mg : Str → Option Value) (base : Heap) (CX : CXT) (k : Nat) (x : Str) (ks : List Str) (is : List Nat) (sp : Sp) : Prop where
  ex : ∃ (f : Addr) (fd : FuncData) (ps : List Str), FnOk P w K mg base CX k f fd ps sp ∧ mg x = some (.ref f) ∧ PySem.W.keepIn K (.ref f) = true ∧ KBn K fd ps 0 ks (fun us ws => us ++ kwp is ws) (fun vs zs => vs ++ kwp is zs)
def tMethK1 (C : Addr) (m : Str) (n : Nat) (is : List Nat) (sp : Sp) (E : XK) (ta : TE) (tk : TA) : TE := fun σ H Q => ta σ H fun x H1 => rMe C m x H1 (tk σ H1 fun zs H2 => zs.length = n ∧ sp ([x] ++ kwp is zs) H2 Q E)
def tCallK1 (n : Nat) (is : List Nat) (sp : Sp) (E : XK) (tk : TA) : TE := fun σ H Q => tk σ H fun zs H2 => zs.length = n ∧ sp ([] ++ kwp is zs) H2 Q E
section
variable {X : Cx} {CX : CXT} {k j : Nat} {C : Addr} {x m : Str} {sp : Sp} {E : XK} {p pos apos : Pos} {e o : Expr} {kws : List Keyword} {ks : List Str} {is : List Nat} {ta : TE} {t tk : TA}
theorem pe_mtK {pl : Sem Bool} (c : MetK X.prog X.w X.K X.mg X.base CX k C m ks is sp) (hr : Room j X.A) (hk : k ≤ j) (hx : Passes CX X E) (he : PE X o ta) (hkw : PK X kws tk)
    (hall : (backToKw pos (keywordEach kws X.env)).all (·.1.isSome) = true := by rfl) (hks : (backToKw pos (keywordEach kws X.env)).filterMap (·.1) = ks := by rfl)
    (hpl : ((backTo pos (starEach [] X.env)).any (·.1) || (backToKw pos (keywordEach kws X.env)).any (·.1.isNone)) = false := by rfl)
    (ht : eval (.Call (.Attribute o m apos) [] kws pos) X.env = (do
      let ov ← eval o X.env
      standAt apos.atName
      let (f, first) ← holding [ov] (getMethod ov m pl)
      callWith pos f first (backTo pos (starEach [] X.env)) (backToKw pos (keywordEach kws X.env))) := by rfl) :
    PE X (.Call (.Attribute o m apos) [] kws pos) (tMethK1 C m ks.length is sp E ta tk) := by
  obtain ⟨f, fd, ps, c1, hm, F, b⟩ := c.ex
  refine ⟨fun pins s σ H Q I h => ?_⟩
  refine PySem.W.methodCall_KW (pl := pl) (thn (he.run pins s σ H _ I h) fun u s1 ⟨x, H1, I1, rx, a, dx, fs, ex, ea, l, q⟩ => ?_) ht
  subst ex
  obtain rfl : u = Value.ref a := rx
  refine getmeth_ok I1 ea c1 hm l ?_
  refine PySem.W.callWith_KW0 (first := [.ref a]) (h₀ := X.base) I.ok.mod.kin hm.kp hall (thn (hkw.run pos pins s1 σ H1 _ I1 q) fun ws s2 ⟨zs, H2, I2, rz, l2, q2⟩ => ⟨I2.kIn, ?_⟩) hpl
  rw [hks]
  exact run_fnN (us := [.ref a]) (vs := [.ref a]) F (hr.mono hk) b hx I2 (.cons rfl .nil) rz rfl l2 q2
theorem pe_ck (c : CalK X.prog X.w X.K X.mg X.base CX k x ks is sp) (hr : Room j X.A) (hk : k ≤ j) (hg : Gl X x) (hx : Passes CX X E) (hkw : PK X kws tk)
    (hall : (backToKw pos (keywordEach kws X.env)).all (·.1.isSome) = true := by rfl) (hks : (backToKw pos (keywordEach kws X.env)).filterMap (·.1) = ks := by rfl) (hdb : (x == ("__debug__" : Str)) = false := by decide)
    (hpl : ((backTo pos (starEach [] X.env)).any (·.1) || (backToKw pos (keywordEach kws X.env)).any (·.1.isNone)) = false := by rfl) :
    PE X (.Call (.Name x p) [] kws pos) (tCallK1 ks.length is sp E tk) := by
  obtain ⟨f, fd, ps, F, hm, kp, b⟩ := c.ex
  refine ⟨fun pins s σ H Q I h => ?_⟩
  refine wpAny_Call_Name_kw (ld_glob I hg hm ?_ hdb)
  refine PySem.W.callWith_KW0 (h₀ := X.base) I.ok.mod.kin kp hall (thn (hkw.run pos pins s σ H _ I h) fun ws s2 ⟨zs, H2, I2, rz, l2, q2⟩ => ⟨I2.kIn, ?_⟩) hpl
  rw [hks]
  exact run_fnN (us := []) (vs := []) F (hr.mono hk) b hx I2 .nil rz rfl l2 q2
end
/-- C(): every keyword-only parameter by its default -/
structure MakD (P : Program) (w : World) (K : PySem.W.Frag) (mg : Str → Option Value) (base : Heap) (CX : CXT) (k : Nat) (x : Str) (C : Addr) (dvs : List V) (sp : Sp) : Prop where
  ex : ∃ (f : Addr) (fd : FuncData) (ps : List Str) (ds : List Value), Mk K C f ∧ FnOk P w K mg base CX k f fd ps sp ∧ mg x = some (.ref C) ∧ Binds K fd ps ds ∧ L2.Vals dvs ds
def rMk0 (C : Addr) (sp : Sp) (dvs : List V) (E : XK) : Hp → VK → Prop := fun H Q => ∀ x dx, H x = none → H dx = none → dx ≠ x → sp (.ref x :: ([] ++ dvs)) (upd (upd H dx (.own x)) x (.ins C dx [])) (fun v H2 => v = .non ∧ Q (.ref x) H2) E
def tMk0 (C : Addr) (sp : Sp) (dvs : List V) (E : XK) : TE := fun _ H Q => rMk0 C sp dvs E H Q
theorem pe_mkD {X : Cx} {CX : CXT} {k j : Nat} {C : Addr} {x : Str} {sp : Sp} {E : XK} {p pos : Pos} {dvs : List V} (c : MakD X.prog X.w X.K X.mg X.base CX k x C dvs sp) (hr : Room j X.A) (hk : k + 1 ≤ j) (hg : Gl X x) (hx : Passes CX X E) (hdb : (x == ("__debug__" : Str)) = false := by decide) :
    PE X (.Call (.Name x p) [] [] pos) (tMk0 C sp dvs E) := by
  obtain ⟨f, fd, ps, ds, M, F, hm, b, d⟩ := c.ex
  exact pe_make0 M F (hr.mono hk) hg hm b d hx hdb
section
variable {H0 H : Hp} {ft : List Addr} {l : List Cell} {t : Nat} {a p C : Addr} {o : HO} {c : Cell}
theorem Sep.drop1 (S : Sep H0 ft H (c :: l)) : Sep H0 ft H l :=
  ⟨(List.nodup_cons.mp S.nd).2, fun d h => S.rd d (List.mem_cons_of_mem _ h), S.fr, fun d h => S.wr d (List.mem_cons_of_mem _ h), fun d h => S.nw d (List.mem_cons_of_mem _ h), S.ex⟩
theorem Sep.drop2 {d : Cell} (S : Sep H0 ft H (d :: c :: l)) : Sep H0 ft H (d :: l) := by
  obtain ⟨n1, n2⟩ := List.nodup_cons.mp S.nd
  exact ⟨List.nodup_cons.mpr ⟨fun h => n1 (List.mem_cons_of_mem _ h), (List.nodup_cons.mp n2).2⟩, fun e h => S.rd e ((List.mem_cons.mp h).elim (fun z => z ▸ List.mem_cons_self) fun h => List.mem_cons_of_mem _ (List.mem_cons_of_mem _ h)), S.fr,
    fun e h => S.wr e ((List.mem_cons.mp h).elim (fun z => z ▸ List.mem_cons_self) fun h => List.mem_cons_of_mem _ (List.mem_cons_of_mem _ h)),
    fun e h => S.nw e ((List.mem_cons.mp h).elim (fun z => z ▸ List.mem_cons_self) fun h => List.mem_cons_of_mem _ (List.mem_cons_of_mem _ h)), S.ex⟩
/-- a new instance, ahead of its __init__ -/
theorem Sep.made {x dx : Addr} (S : Sep H0 ft H l) (hx : H x = none) (hd : H dx = none) (n : dx ≠ x) : Sep H0 ft (upd (upd H dx (.own x)) x (.ins C dx [])) ((2, x, .ins C dx []) :: l) :=
  ((S.new hd (.own x)).new (by rw [upd_ne n.symm]; exact hx) (.ins C dx [])).drop2
/-- a new cell that a call has laid -/
theorem Sep.got {H' : Hp} {l' : List Cell} (S : Sep H0 ft H l) (S' : Sep H0 ft H' l') (e : l'.map (·.2.1) = l.map (·.2.1)) (hn : H p = none) (hp : H' p = some o) : Sep H0 ft H' ((2, p, o) :: l') := by
  refine S'.add 2 hp (fun c hc z => ?_) (fun e => by cases e) fun _ => S.none0 hn
  have : c.2.1 ∈ l.map (·.2.1) := by rw [← e]; exact List.mem_map.mpr ⟨c, hc, rfl⟩
  obtain ⟨d, hd, ed⟩ := List.mem_map.mp this
  have := S.rd d hd
  rw [ed, z, hn] at this; cases this
theorem map_set {i : Nat} {o' : HO} (h : l[i]? = some (t, a, o)) : (l.set i (t, a, o')).map (·.2.1) = l.map (·.2.1) := by
  rw [List.map_set]
  have : (l.map (·.2.1))[i]? = some a := by rw [List.getElem?_map, h]; rfl
  obtain ⟨x, e⟩ := List.getElem?_eq_some_iff.mp this
  rw [← e]
  exact List.set_getElem_self x
end
/-- tests -/
theorem ited {p A B : Prop} [Decidable p] (h1 : p → A) (h2 : ¬ p → B) : if decide p = true then A else B := by
  by_cases h : p
  · rw [decide_eq_true h, if_pos rfl]; exact h1 h
  · rw [decide_eq_false h, if_neg Bool.false_ne_true]; exact h2 h
theorem itend {p A B : Prop} [Decidable p] (h1 : ¬ p → A) (h2 : p → B) : if (!decide p) = true then A else B := by
  by_cases h : p
  · rw [decide_eq_true h]; exact h2 h
  · rw [decide_eq_false h]; exact h1 h
theorem iteq {i j : Int} {A B : Prop} (h1 : i = j → A) (h2 : i ≠ j → B) : if decide (V.int i = V.int j) = true then A else B := ited (fun h => h1 (V.int.inj h)) fun h => h2 fun e => h (by rw [e])
theorem itne {i j : Int} {A B : Prop} (h1 : i ≠ j → A) (h2 : i = j → B) : if (!decide (V.int i = V.int j)) = true then A else B := itend (fun h => h1 fun e => h (by rw [e])) fun h => h2 (V.int.inj h)
theorem iteb {b : Bool} {A B : Prop} (h1 : b = true → A) (h2 : b = false → B) : if b = true then A else B := by
  cases b with
  | true => rw [if_pos rfl]; exact h1 rfl
  | false => rw [if_neg Bool.false_ne_true]; exact h2 rfl
theorem itnb {b : Bool} {A B : Prop} (h1 : b = false → A) (h2 : b = true → B) : if (!b) = true then A else B := by
  cases b with
  | true => exact ite2 (fun h => nomatch h) fun _ => h2 rfl
  | false => exact ite2 (fun _ => h1 rfl) fun h => absurd rfl h
theorem itnn {b : Bool} {A B : Prop} (h : if b = true then A else B) : if (!(!b)) = true then A else B := by rw [Bool.not_not]; exact h
theorem iteSome {v : Option V} {A B : Prop} (h1 : ∀ w, v = some w → A) (h2 : v = none → B) : if v.isSome = true then A else B := by
  cases v with
  | none => exact ite2 (fun h => nomatch h) fun _ => h2 rfl
  | some w => exact ite2 (fun _ => h1 w rfl) fun h => absurd rfl h
theorem iteNone {v : Option V} {A B : Prop} (h1 : v = none → A) (h2 : ∀ w, v = some w → B) : if (!v.isSome) = true then A else B := by
  cases v with
  | none => exact ite2 (fun _ => h1 rfl) fun h => absurd rfl h
  | some w => exact ite2 (fun h => nomatch h) fun _ => h2 w rfl
theorem mul_bd {a b A B : Int} (h0 : 0 ≤ a) (h1 : a < A) (h2 : 0 ≤ b) (h3 : b < B) : 0 ≤ a * b ∧ a * b < A * B :=
  ⟨Int.mul_nonneg h0 h2, Int.lt_of_le_of_lt (Int.mul_le_mul_of_nonneg_left (Int.le_of_lt h3) h0) (Int.mul_lt_mul_of_pos_right h1 (by omega))⟩
theorem pos_lt {x y : Int} (h : 0 < x) : y % x < x := Int.emod_lt_of_pos y h
theorem mod_nn {x y : Int} (h : 0 < x) : 0 ≤ y % x := Int.emod_nonneg y (by omega)
/-! ### calls that change several cells -/
section
variable {H0 H H' : Hp} {ft ft' : List Addr} {l l' : List Cell}
/-- the cells ahead of a call, tagged anew -/
theorem Sep.retag (S : Sep H0 ft H l) (e : l'.map (·.2) = l.map (·.2)) (h1 : ∀ c ∈ l', c.1 = 1 → c.2.1 ∈ ft') (h2 : ∀ c ∈ l', c.1 ≠ 2) (h3 : ∀ b ∈ ft', b ∈ l'.map (·.2.1)) : Sep H ft' H l' := by
  have em : l'.map (·.2.1) = l.map (·.2.1) := by
    have := congrArg (List.map Prod.fst) e
    rw [List.map_map, List.map_map] at this
    exact this
  have rd : ∀ c ∈ l', H c.2.1 = some c.2.2 := fun c hc => by
    have : c.2 ∈ l.map (·.2) := by rw [← e]; exact List.mem_map.mpr ⟨c, hc, rfl⟩
    obtain ⟨d, hd, ed⟩ := List.mem_map.mp this
    have := S.rd d hd
    rw [ed] at this
    exact this
  refine ⟨by rw [em]; exact S.nd, rd, fun _ _ h _ => h, h1, fun c hc z => absurd z (h2 c hc), fun b hb => ?_⟩
  obtain ⟨c, hc, rfl⟩ := List.mem_map.mp (h3 b hb)
  exact ⟨_, rd c hc⟩
/-- the cells that a call is given: (tag, index) -/
def preL (l : List Cell) (is : List (Nat × Nat)) : List Cell := is.filterMap fun u => l[u.2]?.map fun c => (u.1, c.2)
theorem Sep.pre (S : Sep H0 ft H l) (is : List (Nat × Nat)) (hn : (is.map (·.2)).Nodup := by decide) (ht : (is.all fun u => decide (u.1 ≤ 1)) = true := by decide) : Sep H (((preL l is).filter (·.1 = 1)).map (·.2.1)) H (preL l is) := by
  refine (S.sub (is.map (·.2)) hn).retag ?_ ?_ ?_ ?_
  · unfold preL
    rw [List.map_filterMap, List.map_filterMap, List.filterMap_map]
    congr 1
    funext u
    show Option.map _ (Option.map _ l[u.2]?) = Option.map _ l[u.2]?
    cases l[u.2]? <;> rfl
  · intro c hc e
    exact List.mem_map.mpr ⟨c, List.mem_filter.mpr ⟨hc, decide_eq_true e⟩, rfl⟩
  · intro c hc e
    obtain ⟨u, hu, eu⟩ := List.mem_filterMap.mp hc
    obtain ⟨d, _, rfl⟩ := Option.map_eq_some_iff.mp eu
    have := of_decide_eq_true (List.all_eq_true.mp ht u hu)
    have e : u.1 = 2 := e
    omega
  · intro b hb
    obtain ⟨c, hc, rfl⟩ := List.mem_map.mp hb
    exact List.mem_map.mpr ⟨c, (List.mem_filter.mp hc).1, rfl⟩
/-- the cells behind it: (index, cell) -/
theorem Sep.chgs : ∀ (us : List (Nat × Cell)) {H : Hp} {l : List Cell}, Sep H0 ft H l → (∀ u ∈ us, ∃ o, l[u.1]? = some (u.2.1, u.2.2.1, o)) → (∀ u ∈ us, u.2.1 = 1 ∨ u.2.1 = 2) → (us.map (·.1)).Nodup →
    (∀ b o, H b = some o → b ∉ us.map (·.2.2.1) → H' b = some o) → (∀ u ∈ us, H' u.2.2.1 = some u.2.2.2) → Sep H0 ft H' (us.foldl (fun l u => l.set u.1 u.2) l)
  | [], _, _, S, _, _, _, F, _ => S.stay fun b o e => F b o e (fun z => nomatch z)
  | (i, t, a, o') :: r, H, l, S, hi, ht, hn, F, he => by
    obtain ⟨o, ho⟩ := hi _ List.mem_cons_self
    obtain ⟨n1, n2⟩ := List.nodup_cons.mp hn
    refine Sep.chgs r (S.put i o' ho (ht _ List.mem_cons_self)) (fun u hu => ?_) (fun u hu => ht u (List.mem_cons_of_mem _ hu)) n2 (fun b u hb hm => ?_) (fun u hu => he u (List.mem_cons_of_mem _ hu))
    · obtain ⟨v, hv⟩ := hi u (List.mem_cons_of_mem _ hu)
      exact ⟨v, by rw [List.getElem?_set_ne (fun z => n1 (List.mem_map.mpr ⟨u, hu, z.symm⟩))]; exact hv⟩
    · by_cases z : b = a
      · subst z
        rw [upd_same] at hb
        cases hb
        exact he _ List.mem_cons_self
      · rw [upd_ne z] at hb
        exact F b u hb (fun m => (List.mem_cons.mp m).elim z hm)
end
theorem fun_kbn {K : PySem.W.Frag} {x qual : Str} {st : Stmt} {f : Addr} {fd : FuncData} (F : L2.Fun K x qual st f fd) (n : Nat) (ks : List Str) (is : List Nat) {ps : List Str}
    (h : ∀ (kV doc pm : Value) (an : Option Addr) (cdv ct : Value) (us ws : List Value), us.length = n → ws.length = ks.length → bindArgs (PySem.W.fnOf x qual (defArgs st) (defBody st) (defScope st) .none kV doc pm an cdv ct) ⟨us, ks.zip ws⟩ = pure (ps.zip (us ++ kwp is ws))) :
    KBn K fd ps n ks (fun us ws => us ++ kwp is ws) (fun vs zs => vs ++ kwp is zs) := by
  obtain ⟨oc, od, kV, doc, pm, an, cdv, ct, osl, rfl, lk, hcd⟩ := F.ex
  exact ⟨fun s us ws _ l1 l2 => .of_eq (h kV doc pm an cdv ct us ws l1 l2), fun r1 r2 => r1.append (kwp_vals is r2)⟩
/-! ### rules that the layer lacks -/
section
variable {X : Cx}
theorem get_list : PGet X (rIxL X.K) := by
  intro pins s σ H x y v u Q I rx ry h
  obtain ⟨p, xs, i, z, rfl, rfl, hq, he, q⟩ := h
  cases rx
  obtain ⟨t, rfl⟩ := ry
  obtain ⟨its, r, pl, hz⟩ := I.list hq
  obtain ⟨j, h1, h2, h3, h4, h5⟩ := atI_get he
  obtain ⟨w, ew, rw'⟩ := r.get h2
  have hl := r.length
  have hn := line63
  have fin : EP X pins σ Q w s := ⟨z, H, I, rw', q⟩
  by_cases h0 : 0 ≤ i
  · have hj : i.toNat = j := by
      rw [seqIndex_of h0 h5] at h1
      exact Option.some.inj h1
    exact wpAny_getItem_list pl.isList h0 (by omega) (by rw [hj]; simpa using ew) fin
  · have hj : (i + (its.toArray.size : Int)).toNat = j := by
      rw [seqIndex_neg (by omega) h4] at h1
      rw [List.size_toArray, ← hl]
      exact Option.some.inj h1
    exact wpAny_getItem_list_neg pl.isList (by omega) (by rw [List.size_toArray] <;> omega) (by omega) (by rw [hj]; simpa using ew) fin
end
end G

set_option linter.all false
set_option maxRecDepth 100000
/-! walks, locked dicts, dicts with tuple keys, more methods -/
namespace G
open PySem PySem.Spec PyProof.Rows L2
section
variable {H0 H : Hp} {ft : List Addr} {l : List Cell} {t : Nat} {a p : Addr} {o u : HO} {K : PySem.W.Frag} {σ : L2.St} {Q : VK} {v x y z : V} {i j : Int}
theorem x_join (te : TE) (R : V → Hp → Prop) (k : ∀ v H', R v H' → Q v H') (h : (∀ v H', R v H' → Q v H') → te σ H Q) : te σ H Q := h k
theorem x_orT {ta tb : TE} (h : ta σ H fun x H1 => ∃ k, TruV K x H1 k ∧ if k = true then Q x H1 else tb σ H1 Q) : tOrT K ta tb σ H Q := h
theorem forW {J : It} {n : Nat} {G : Hp → Prop} {Y : Nat → Hp → V → Hp → Prop} (w : Walk J n G Y) {g : TG} {tb : TS} {D : Ends} (Pv : Nat → L2.St → Hp → Prop) (h0 : Pv 0 σ H) (hG : ∀ i σ H, i ≤ n → Pv i σ H → G H)
    (hs : ∀ i x σ H H', i < n → Pv i σ H → Y i H x H' → g x σ H' fun σ2 H2 => tb { D with nx := Pv (i + 1), ct := Pv (i + 1), bk := D.nx } σ2 H2) (hd : ∀ σ H, Pv n σ H → D.nx σ H) : ForJ J g tb D σ H := for_it w Pv h0 hG hs hd
theorem lcW {J : It} {n : Nat} {G : Hp → Prop} {Y : Nat → Hp → V → Hp → Prop} (w : Walk J n G Y) {g : TG} {tt : TT} {te : TE} {vs : List Nat} (S : Sep H0 ft H l)
    (h : ∀ D H1, Sep H0 ft H1 ((2, D, .lst []) :: l) → ∃ Pv : Nat → Hp → Prop, Pv 0 H1 ∧ (∀ i H, i ≤ n → Pv i H → G H) ∧
      (∀ i x H H', i < n → Pv i H → Y i H x H' → g x (wipe σ vs) H' fun σ2 H2 => wipe σ2 vs = wipe σ vs ∧ tt σ2 H2 fun b H3 => if b = true then te σ2 H3 fun y H4 => rLcA D y H4 (Pv (i + 1)) else Pv (i + 1) H3) ∧
      ∀ H, Pv n H → Q (.ref D) H) : LcJ J g tt te vs σ H Q := fun D hD =>
  let ⟨Pv, h0, hG, hs, hd⟩ := h D _ (S.new hD (.lst []))
  lc_it w (H1 := H) Pv h0 hG hs hd
theorem pg_tupK {X : Cx} {pos : Pos} {es : List Expr} {k : Nat} {t : TGs} (K : PySem.W.Frag) (n : Nat) (hc : X.calm = true) (h : PGs X es t) (hn : (assignEach es X.env).length = n := by rfl) (hst : (assignEach es X.env).findIdx? (·.1) = none := by rfl) (e : X.K = K := by rfl) : PG X (.Tuple es k pos) (gTup K n t) := by
  subst e; exact pg_tup hc h hn hst
def tNevE : TE := fun _ _ _ => False
theorem pe_never {X : Cx} {e : Expr} : PE X e tNevE := ⟨fun _ _ _ _ _ _ h => h.elim⟩
def tNevT : TT := fun _ _ _ => False
theorem pt_never {X : Cx} {e : Expr} : PT X e tNevT := ⟨fun _ _ _ _ _ _ h => h.elim⟩
/-! a dict that is walked stands locked -/
def rUnl (p : Addr) (od : Obj) (u : HO) (H : Hp) (R : Hp → Prop) : Prop := H p = some (.frz od u) ∧ R (upd H p u)
theorem x_lockE {te : TE} (S : Sep H0 ft H l) (n : Nat) (h : l[n]? = some (t, p, u)) (mu : Mut (some u)) (q : ∀ od H', Sep H0 ft H' (l.set n (t, p, .frz od u)) → te σ H' fun v H2 => rUnl p od u H2 (Q v))
    (ht : t = 1 ∨ t = 2 := by first | exact .inl rfl | exact .inr rfl) : tLockE te σ H Q := ⟨p, u, S.get n h, mu, fun od => q od _ (S.put n _ h ht)⟩
theorem x_unl {od : Obj} {R : Hp → Prop} (S : Sep H0 ft H l) (n : Nat) (h : l[n]? = some (t, p, .frz od u)) (q : ∀ H', Sep H0 ft H' (l.set n (t, p, u)) → R H') (ht : t = 1 ∨ t = 2 := by first | exact .inl rfl | exact .inr rfl) : rUnl p od u H R :=
  ⟨S.get n h, q _ (S.put n _ h ht)⟩
def lockD (p : Addr) (od : Obj) (u : HO) (D : Ends) : Ends := ⟨fun σ' H' => rUnl p od u H' (D.nx σ'), fun v H' => rUnl p od u H' (D.rt v), fun σ' H' => rUnl p od u H' (D.bk σ'), fun σ' H' => rUnl p od u H' (D.ct σ')⟩
theorem x_lockS {ts : TS} {D : Ends} (S : Sep H0 ft H l) (n : Nat) (h : l[n]? = some (t, p, u)) (mu : Mut (some u)) (q : ∀ od H', Sep H0 ft H' (l.set n (t, p, .frz od u)) → ts (lockD p od u D) σ H')
    (ht : t = 1 ∨ t = 2 := by first | exact .inl rfl | exact .inr rfl) : tLock ts D σ H := ⟨p, u, S.get n h, mu, fun od => q od _ (S.put n _ h ht)⟩
def rKeys : V → Hp → (It → Hp → Prop) → Prop := fun x H R => ∃ d o, x = .ref d ∧ ((∃ kvs, H d = some (.frz o (.dK kvs)) ∧ R (Itk d o kvs) H) ∨ ∃ kvs, H d = some (.frz o (.dT kvs)) ∧ R (Itkt d o kvs) H)
def iKeys1 (td : TE) : TI := fun σ H R => td σ H fun x H1 => rKeys x H1 R
theorem pi_keys1 {X : Cx} {tg e : Expr} {td : TE} (he : PE X e td) : PI X tg e (iKeys1 td) := pi_keys he
theorem x_ikeysT {od : Obj} {kvs : List (List Key × V)} {R : It → Hp → Prop} (S : Sep H0 ft H l) (n : Nat) (h : l[n]? = some (t, p, .frz od (.dT kvs))) (q : R (Itkt p od kvs) H) : rKeys (.ref p) H R := ⟨p, od, rfl, .inr ⟨kvs, S.get n h, q⟩⟩
theorem x_ikeys {od : Obj} {kvs : List (Key × V)} {R : It → Hp → Prop} (S : Sep H0 ft H l) (n : Nat) (h : l[n]? = some (t, p, .frz od (.dK kvs))) (q : R (Itk p od kvs) H) : rKeys (.ref p) H R := ⟨p, od, rfl, .inl ⟨kvs, S.get n h, q⟩⟩
def rEnum (K : PySem.W.Frag) : List V → Hp → (It → Hp → Prop) → Prop := fun vs H R => ∃ a xs, vs = [.ref a] ∧ SqL K H a xs ∧ R (Ite K a) H
def iEnum1 (K : PySem.W.Frag) (ta : TA) : TI := fun σ H R => ta σ H fun vs H1 => rEnum K vs H1 R
theorem pi_enumK {X : Cx} {e : Expr} {ta : TA} {p pos tpos : Pos} {elts : List Expr} {kk : Nat} (K : PySem.W.Frag) (hg : Gl X "enumerate") (hm : X.mg "enumerate" = none) (ha : PA X [e] ta) (hs : starEach [e] X.env = [(false, eval e X.env)] := by rfl) (h : X.K = K := by rfl) :
    PI X (.Tuple elts kk tpos) (.Call (.Name "enumerate" p) [e] [] pos) (iEnum1 K ta) := by subst h; exact pi_enum hg hm ha hs
theorem x_enum {xs : List V} {R : It → Hp → Prop} (S : Sep H0 ft H l) (n : Nat) (h : l[n]? = some (t, p, .lst xs)) (q : R (Ite K p) H) : rEnum K [.ref p] H R := ⟨p, xs, rfl, S.sl n h, q⟩
/-! dicts with tuple keys -/
def rDNewT : Hp → VK → Prop := fun H Q => ∀ p, H p = none → Q (.ref p) (upd H p (.dT []))
def tDNewT1 : TE := fun _ H Q => rDNewT H Q
theorem pe_dnewT1 {X : Cx} {pos : Pos} : PE X (.Dict [] [] pos) tDNewT1 := pe_dnewT
theorem x_dnewT (S : Sep H0 ft H l) (q : ∀ p H', Sep H0 ft H' ((2, p, .dT []) :: l) → Q (.ref p) H') : rDNewT H Q := x_new S _ q
theorem x_dputT {t' : Nat} {b : Addr} {kvs : List (List Key × V)} {xs : List V} {R : Hp → Prop} (k : List Key) (S : Sep H0 ft H l) (n m : Nat) (h : l[n]? = some (t, p, .dT kvs)) (h' : l[m]? = some (t', b, .tup xs)) (hl : kvs.length < 100000) (q : ∀ H', Sep H0 ft H' (l.set n (t, p, .dT (putK kvs k v))) → R H')
    (e : xs = k.map kV := by rfl) (ht : t = 1 ∨ t = 2 := by first | exact .inl rfl | exact .inr rfl) : rDPut (.ref p) (.ref b) v H R := by
  subst e; exact ⟨p, _, rfl, DPut.t (S.get n h) (S.get m h') (Nat.lt_of_lt_of_le hl (by decide)), q _ (S.put n _ h ht)⟩
theorem x_dinT {t' : Nat} {b : Addr} {kvs : List (List Key × V)} {xs : List V} (k : List Key) (S : Sep H0 ft H l) (n m : Nat) (h : l[n]? = some (t, p, .dT kvs)) (h' : l[m]? = some (t', b, .tup xs)) (q : Q (.bl (valV kvs k).isSome) H) (e : xs = k.map kV := by rfl) : rDIn (.ref b) (.ref p) H Q := by
  subst e; exact ⟨p, _, rfl, DGet.t (S.get n h) (S.get m h'), q⟩
theorem x_dniT {t' : Nat} {b : Addr} {kvs : List (List Key × V)} {xs : List V} (k : List Key) (S : Sep H0 ft H l) (n m : Nat) (h : l[n]? = some (t, p, .dT kvs)) (h' : l[m]? = some (t', b, .tup xs)) (q : Q (.bl (!(valV kvs k).isSome)) H) (e : xs = k.map kV := by rfl) : rDNi (.ref b) (.ref p) H Q := by
  subst e; exact ⟨p, _, rfl, DGet.t (S.get n h) (S.get m h'), q⟩
/-! d.get -/
def rDG (y z : V) (a : Addr) (H : Hp) (Q : VK) : Prop := ∃ o, DGet H a y o ∧ Q (o.getD z) H
def tDG1 (td ty : TE) : TE := fun σ H Q => td σ H fun x H1 => rIsD x H1 fun a => ty σ H1 fun y H2 => rDG y .non a H2 Q
def tDG2 (td ty tx : TE) : TE := fun σ H Q => td σ H fun x H1 => rIsD x H1 fun a => ty σ H1 fun y H2 => tx σ H2 fun z H3 => rDG y z a H3 Q
section
variable {X : Cx} {td ty tx : TE} {oe e f : Expr} {apos cpos : Pos}
theorem pe_dg1 (hu : X.A.units + 1 < cLine) (ho : PE X oe td) (he : PE X e ty) (m : M1 X oe "get" apos e cpos) : PE X (.Call (.Attribute oe "get" apos) [e] [] cpos) (tDG1 td ty) := pe_dget1 hu ho he m
theorem pe_dg2 (hu : X.A.units + 1 < cLine) (ho : PE X oe td) (he : PE X e ty) (hf : PE X f tx) (m : M2 X oe "get" apos e f cpos) : PE X (.Call (.Attribute oe "get" apos) [e, f] [] cpos) (tDG2 td ty tx) := pe_dget2 hu ho he hf m
end
theorem x_dg {kvs : List (Key × V)} {k : Key} (S : Sep H0 ft H l) (n : Nat) (h : l[n]? = some (t, p, .dK kvs)) (q0 : valV kvs k = none → Q z H) (q1 : ∀ v, valV kvs k = some v → Q v H) : rDG (kV k) z p H Q := by
  refine ⟨_, DGet.k (k := k) (S.get n h), ?_⟩
  cases e : valV kvs k with
  | none => exact q0 e
  | some v => exact q1 v e
theorem x_dgT {t' : Nat} {b : Addr} {kvs : List (List Key × V)} {xs : List V} (k : List Key) (S : Sep H0 ft H l) (n m : Nat) (h : l[n]? = some (t, p, .dT kvs)) (h' : l[m]? = some (t', b, .tup xs)) (q0 : valV kvs k = none → Q z H) (q1 : ∀ v, valV kvs k = some v → Q v H) (e : xs = k.map kV := by rfl) : rDG (.ref b) z p H Q := by
  subst e
  refine ⟨_, DGet.t (k := k) (S.get n h) (S.get m h'), ?_⟩
  cases e : valV kvs k with
  | none => exact q0 e
  | some v => exact q1 v e
theorem x_isDT {kvs : List (List Key × V)} {R : Addr → Prop} (S : Sep H0 ft H l) (n : Nat) (h : l[n]? = some (t, p, .dT kvs)) (q : R p) : rIsD (.ref p) H R := ⟨p, rfl, .inr ⟨_, .inl (S.get n h)⟩, q⟩
/-! more calls -/
def rAbs : List V → Hp → VK → Prop := fun xs H Q => ∃ i, xs = [.int i] ∧ Q (.int (if i < 0 then -i else i)) H
theorem cl_abs {X : Cx} : CallR X (.builtin "abs") rAbs := call_abs
theorem x_abs (q : Q (.int (i.natAbs : Int)) H) : rAbs [.int i] H Q := ⟨i, rfl, by
  have : (if i < 0 then -i else i) = (i.natAbs : Int) := by split <;> omega
  rw [this]; exact q⟩
theorem cl_maxK {X : Cx} (K : PySem.W.Frag) (hc : X.calm = true) (h : X.K = K := by rfl) : CallR X (.builtin "max") (rMax K) := by subst h; exact cr_max hc
theorem x_maxL {ns : List Int} (S : Sep H0 ft H l) (n : Nat) (h : l[n]? = some (t, p, .lst (ns.map V.int))) (hl : 0 < ns.length) (q : ∀ m, m ∈ ns → (∀ y, y ∈ ns → y ≤ m) → Q (.int m) H) : rMax K [.ref p] H Q := ⟨p, ns, rfl, S.sl n h, hl, q⟩
theorem cl_sortedK {X : Cx} (K : PySem.W.Frag) (h : X.K = K := by rfl) : CallR X (.builtin "sorted") (rSorted K) := by subst h; exact cr_sorted
theorem x_sorted {ns : List Int} (S : Sep H0 ft H l) (n : Nat) (h : l[n]? = some (t, p, .lst (ns.map V.int))) (hl : ns.length < 64) (q : ∀ (ns' : List Int) r H', ns'.Perm ns → ns'.Pairwise (· ≤ ·) → Sep H0 ft H' ((2, r, .lst (ns'.map V.int)) :: l) → Q (.ref r) H') : rSorted K [.ref p] H Q :=
  ⟨p, ns, rfl, S.sl n h, hl, fun ns' r hp hw hr => q ns' r _ hp hw (S.new hr _)⟩
theorem x_cat {q1 : Addr} {t' : Nat} {xs ys : List V} (S : Sep H0 ft H l) (n m : Nat) (h : l[n]? = some (t, p, .lst xs)) (h' : l[m]? = some (t', q1, .lst ys)) (hl : xs.length + ys.length ≤ 100000) (q : ∀ r H', Sep H0 ft H' ((2, r, .lst (xs ++ ys)) :: l) → Q (.ref r) H') : rCat (.ref p) (.ref q1) H Q :=
  ⟨p, q1, xs, ys, rfl, rfl, S.get n h, S.get m h', Nat.le_trans hl (by decide), x_new S _ q⟩
theorem x_rev {xs : List V} (S : Sep H0 ft H l) (n : Nat) (h : l[n]? = some (t, p, .lst xs)) (q : ∀ H', Sep H0 ft H' (l.set n (t, p, .lst xs.reverse)) → Q .non H') (ht : t = 1 ∨ t = 2 := by first | exact .inl rfl | exact .inr rfl) : rReverse (.ref p) [] H Q := ⟨p, xs, rfl, rfl, S.get n h, q _ (S.put n _ h ht)⟩
theorem x_clear {xs : List V} (S : Sep H0 ft H l) (n : Nat) (h : l[n]? = some (t, p, .lst xs)) (q : ∀ H', Sep H0 ft H' (l.set n (t, p, .lst [])) → Q .non H') (ht : t = 1 ∨ t = 2 := by first | exact .inl rfl | exact .inr rfl) : rClear (.ref p) [] H Q := ⟨p, xs, rfl, rfl, S.get n h, q _ (S.put n _ h ht)⟩
theorem x_appI {cs : List Int} (S : Sep H0 ft H l) (n : Nat) (h : l[n]? = some (t, p, .lst (cs.map V.int))) (hl : cs.length < 100000) (q : ∀ H', Sep H0 ft H' (l.set n (t, p, .lst ((cs ++ [i]).map V.int))) → Q .non H') (ht : t = 1 ∨ t = 2 := by first | exact .inl rfl | exact .inr rfl) :
    rAppend (.ref p) [.int i] H Q := x_app S n h (by rw [List.length_map]; exact hl) (fun H' S' => q H' (by rw [List.map_append]; exact S')) ht
/-! a list of which the script's cells are read -/
theorem x_slS {cs : List Int} {lo hi : Option Int} (hs : SqL K H p (cs.map V.int)) (S : Sep H0 ft H l) (q : ∀ r H', Sep H0 ft H' ((2, r, .lst ((cutI cs lo hi).map V.int)) :: l) → Q (.ref r) H') : rSlL K (.ref p) lo hi H Q :=
  ⟨p, _, rfl, hs, by rw [cutV_map]; exact x_new S _ q⟩
theorem len_cutI {α : Type} (xs : List α) (lo hi : Option Int) : (cutI xs lo hi).length ≤ xs.length := by
  unfold cutI
  rw [List.length_take, List.length_drop]
  omega
theorem cutV_from {xs : List V} {i : Int} (h0 : 0 ≤ i) : cutV xs (some i) none = xs.drop i.toNat := by
  unfold cutV
  have e : i = (i.toNat : Int) := by omega
  rw [e, HT.sIx_nat, Int.toNat_natCast]
  have e2 : HT.sIx xs.length xs.length none = xs.length := by unfold HT.sIx; simp
  rw [e2]
  by_cases hl : i.toNat ≤ xs.length
  · rw [Nat.min_eq_left hl, List.take_of_length_le (by rw [List.length_drop]; exact Nat.le_refl _)]
  · rw [Nat.min_eq_right (by omega), List.drop_length, List.take_nil, List.drop_eq_nil_of_le (by omega)]
end
end G

set_option linter.all false
set_option maxRecDepth 100000
/-! dicts with fixed keys, displays, a tail of cells -/
namespace G
open PySem PySem.Spec PyProof.Rows L2
section
variable {H0 H H' : Hp} {ft : List Addr} {l l' o' : List Cell} {t : Nat} {a p : Addr} {o u : HO} {K : PySem.W.Frag} {σ : L2.St} {Q : VK} {v x y z : V} {i j : Int}
def rDsE (p : Addr) (ps : List (V × V)) (H : Hp) (Q : VK) : Prop := H p = some (.dK []) ∧ ∃ kvs : List (Key × V), ps = kvs.map (fun kv => (kV kv.1, kv.2)) ∧ kvs.length ≤ 15 ∧ Q (.ref p) (upd H p (.dK (mergeK [] kvs)))
theorem x_disp {trs : List (TE × TE)} (S : Sep H0 ft H l) (q : ∀ p H', Sep H0 ft H' ((2, p, .dK []) :: l) → tPairs trs σ H' fun ps H2 => rDsE p ps H2 Q) : tDisp trs σ H Q := fun p hp => q p _ (S.new hp _)
theorem x_dispE {kvs kvs' : List (Key × V)} {ps : List (V × V)} (S : Sep H0 ft H l) (n : Nat) (h : l[n]? = some (t, p, .dK [])) (e : ps = kvs.map (fun kv => (kV kv.1, kv.2))) (hl : kvs.length ≤ 15) (hm : mergeK [] kvs = kvs') (q : ∀ H', Sep H0 ft H' (l.set n (t, p, .dK kvs')) → Q (.ref p) H')
    (ht : t = 1 ∨ t = 2 := by first | exact .inl rfl | exact .inr rfl) : rDsE p ps H Q := ⟨S.get n h, kvs, e, hl, by rw [hm]; exact q _ (S.put n _ h ht)⟩
theorem x_dputR {kvs kvs' : List (Key × V)} {k : Key} {R : Hp → Prop} (S : Sep H0 ft H l) (n : Nat) (h : l[n]? = some (t, p, .dK kvs)) (e : putK kvs k v = kvs') (hl : kvs.length < 100000) (q : ∀ H', Sep H0 ft H' (l.set n (t, p, .dK kvs')) → R H')
    (ht : t = 1 ∨ t = 2 := by first | exact .inl rfl | exact .inr rfl) : rDPut (.ref p) (kV k) v H R := x_dput S n h hl (fun H' S' => q H' (by rw [← e]; exact S')) ht
theorem x_pop0 {xs : List V} (S : Sep H0 ft H l) (n : Nat) (h : l[n]? = some (t, p, .lst (x :: xs))) (q : ∀ H', Sep H0 ft H' (l.set n (t, p, .lst xs)) → Q x H') (ht : t = 1 ∨ t = 2 := by first | exact .inl rfl | exact .inr rfl) : rPopAt (.ref p) [.int 0] H Q :=
  ⟨p, _, 0, 0, x, rfl, rfl, S.get n h, by decide, by decide, by unfold seqIndex?; simp, rfl, q _ (S.put n _ h ht)⟩
/-- some of the first n cells, in another order, ahead of the others -/
theorem Sep.subT (S : Sep H0 ft H l) (n : Nat) (is : List Nat) (hn : is.Nodup := by decide) (hb : (is.all fun i => decide (i < n)) = true := by decide) : Sep H0 ft H (is.filterMap (l[·]?) ++ l.drop n) := by
  have hm : ∀ c ∈ is.filterMap (l[·]?) ++ l.drop n, c ∈ l := fun c hc => by
    rcases List.mem_append.mp hc with hc | hc
    · obtain ⟨j, _, ej⟩ := List.mem_filterMap.mp hc
      exact List.mem_of_getElem? ej
    · exact List.mem_of_mem_drop hc
  refine ⟨?_, fun c hc => S.rd c (hm c hc), S.fr, fun c hc => S.wr c (hm c hc), fun c hc => S.nw c (hm c hc), S.ex⟩
  have e1 : (is.filterMap (l[·]?)).map (·.2.1) = is.filterMap ((l.map (·.2.1))[·]?) := by
    rw [List.map_filterMap]
    congr 1
    funext i
    rw [List.getElem?_map]
  rw [List.map_append, List.map_drop, e1]
  refine List.nodup_append.mpr ⟨nodup_of _ is hn S.nd, List.Sublist.nodup (List.drop_sublist _ _) S.nd, fun b hb1 c hc1 e => ?_⟩
  subst e
  obtain ⟨i, hi, ei⟩ := List.mem_filterMap.mp hb1
  have hin : i < n := of_decide_eq_true (List.all_eq_true.mp hb i hi)
  obtain ⟨j, hj⟩ := List.mem_iff_getElem?.mp hc1
  rw [List.getElem?_drop] at hj
  obtain ⟨x1, e1'⟩ := List.getElem?_eq_some_iff.mp ei
  obtain ⟨x2, e2'⟩ := List.getElem?_eq_some_iff.mp hj
  have := (List.getElem_inj S.nd).mp (e1'.trans e2'.symm)
  omega
/-- what a def with two cells of its own is given -/
theorem Sep.give3 {t1 t2 t3 : Nat} {p q r : Addr} {o1 o2 o3 : HO} (S : Sep H0 ft H l) (i j k : Nat) (hi : l[i]? = some (t1, p, o1)) (hj : l[j]? = some (t2, q, o2)) (hk : l[k]? = some (t3, r, o3)) (hn : [i, j, k].Nodup) : Sep H [p, q] H [(1, p, o1), (1, q, o2), (0, r, o3)] := by
  have h := S.sub [i, j, k] hn
  simp only [List.filterMap_cons, hi, hj, hk, List.filterMap_nil] at h
  refine h.retag rfl ?_ ?_ ?_
  · simp
  · simp
  · simp
theorem x_ilistS {xs : List V} {R : It → Hp → Prop} (hs : SqL K H p xs) (q : R (Itl K p) H) : rIL K (.ref p) H R := ⟨p, rfl, ⟨xs, hs⟩, q⟩
def AllP {α : Type} (p : α → Prop) : List α → Prop
  | [] => True
  | a :: r => p a ∧ AllP p r
theorem AllP.all {α : Type} {p : α → Prop} : ∀ {us : List α}, AllP p us → ∀ u ∈ us, p u
  | a :: r, ⟨h, hr⟩, u, hu => (List.mem_cons.mp hu).elim (fun e => e ▸ h) fun m => AllP.all hr u m
theorem fold_addr {us : List (Nat × Cell)} : ∀ {l : List Cell}, (∀ u ∈ us, ∃ o, l[u.1]? = some (u.2.1, u.2.2.1, o)) → (us.map (·.1)).Nodup → (us.foldl (fun l u => l.set u.1 u.2) l).map (·.2.1) = l.map (·.2.1) := by
  induction us with
  | nil => intro l _ _; rfl
  | cons u us ih =>
    intro l hi hn
    obtain ⟨n1, n2⟩ := List.nodup_cons.mp hn
    rw [List.foldl_cons, ih (fun v hv => ?_) n2]
    · obtain ⟨o, ho⟩ := hi u List.mem_cons_self
      exact map_set ho
    · obtain ⟨o, ho⟩ := hi v (List.mem_cons_of_mem _ hv)
      exact ⟨o, by rw [List.getElem?_set_ne (fun z => n1 (List.mem_map.mpr ⟨v, hv, z.symm⟩))]; exact ho⟩
/-- new cells beside those that are -/
theorem Sep.join {ft' : List Addr} {m : List Cell} (S : Sep H0 ft H l) (S1 : Sep H0 ft H' l') (e : l'.map (·.2.1) = l.map (·.2.1)) (S' : Sep H ft' H' (m ++ o')) (hm : ∀ c ∈ m, c.1 = 2) : Sep H0 ft H' (m ++ l') := by
  have hd : ∀ c ∈ m, H c.2.1 = none := fun c hc => S'.nw c (List.mem_append_left _ hc) (hm c hc)
  have nd' := S'.nd
  rw [List.map_append] at nd'
  refine ⟨?_, fun c hc => (List.mem_append.mp hc).elim (fun h => S'.rd c (List.mem_append_left _ h)) (S1.rd c), S1.fr, fun c hc e1 => (List.mem_append.mp hc).elim (fun h => by rw [hm c h] at e1; cases e1) (fun h => S1.wr c h e1),
    fun c hc e1 => (List.mem_append.mp hc).elim (fun h => S.none0 (hd c h)) (fun h => S1.nw c h e1), S1.ex⟩
  rw [List.map_append]
  refine List.nodup_append.mpr ⟨(List.nodup_append.mp nd').1, S1.nd, fun a ha b hb z => ?_⟩
  subst z
  obtain ⟨c, hc, rfl⟩ := List.mem_map.mp ha
  rw [e] at hb
  obtain ⟨d, hd2, ed⟩ := List.mem_map.mp hb
  have := S.rd d hd2
  rw [ed, hd c hc] at this
  cases this
/-- behind a call: n new cells and the changed ones are told by the callee's own list -/
theorem Sep.call {L : List Cell} (S : Sep H0 ft H l) (n : Nat) (us : List (Nat × Cell)) (hi : AllP (fun u : Nat × Cell => ∃ o, l[u.1]? = some (u.2.1, u.2.2.1, o) ∧ (u.2.1 = 1 ∨ u.2.1 = 2)) us) (hn : (us.map (·.1)).Nodup) (S' : Sep H (us.map (·.2.2.1)) H' L)
    (e : L.drop n = us.map (fun u => (1, u.2.2)) := by rfl) (hm : AllP (fun c : Cell => c.1 = 2) (L.take n) := by first | trivial | exact ⟨rfl, trivial⟩ | exact ⟨rfl, rfl, trivial⟩ | exact ⟨rfl, rfl, rfl, trivial⟩ | exact ⟨rfl, rfl, rfl, rfl, trivial⟩) : Sep H0 ft H' (L.take n ++ us.foldl (fun l u => l.set u.1 u.2) l) := by
  have hi1 : ∀ u ∈ us, ∃ o, l[u.1]? = some (u.2.1, u.2.2.1, o) := fun u hu => let ⟨o, h, _⟩ := hi.all u hu; ⟨o, h⟩
  have S1 := S.chgs us hi1 (fun u hu => let ⟨_, _, h⟩ := hi.all u hu; h) hn S'.fr (fun u hu => by
    have : ((1, u.2.2) : Cell) ∈ L := List.mem_of_mem_drop (i := n) (by rw [e]; exact List.mem_map.mpr ⟨u, hu, rfl⟩)
    exact S'.rd (1, u.2.2) this)
  rw [← List.take_append_drop n L] at S'
  exact S.join S1 (fold_addr hi1 hn) S' hm.all
end
end G

set_option linter.all false
set_option maxRecDepth 100000
/-! texts -/
namespace G
open PySem PySem.Spec PyProof.Rows L2
theorem len_app (a b : Str) : (a ++ b).length = a.length + b.length := by
  show (a.cps ++ b.cps).size = _
  rw [Array.size_append]; rfl
theorem len_join0 : ∀ ys : List Str, (Txt.join "" ys).length = (ys.map (·.length)).sum := by
  intro ys
  rw [TL.join_eq]
  induction ys with
  | nil => rfl
  | cons y r ih =>
    cases r with
    | nil => show y.length = y.length + 0; omega
    | cons z r =>
      show (y ++ ("" : Str) ++ Str.join "" (z :: r)).length = _
      rw [len_app, len_app, ih]
      rfl
theorem len_cut8 (z : Str) : (cutS z none (some 8)).length = min z.length 8 := by
  unfold cutS
  have e1 : HT.sIx z.length 0 none = 0 := by unfold HT.sIx; simp
  have e2 : HT.sIx z.length z.length (some 8) = min 8 z.length := HT.sIx_nat z.length z.length 8
  rw [e1, e2]
  show ((z.cps.toList.drop 0).take (min 8 z.length - 0)).toArray.size = _
  rw [List.size_toArray, List.length_take, List.drop_zero, Array.length_toList, Nat.sub_zero]
  show min (min 8 z.length) z.length = _
  omega
theorem inV_str (s : Str) (ss : List Str) : inV (.str s) (ss.map V.str) = decide (s ∈ ss) := by
  unfold inV
  induction ss with
  | nil => rfl
  | cons a r ih =>
    rw [List.map_cons, List.any_cons, ih]
    show ((a == s) || decide (s ∈ r)) = _
    by_cases h : s = a
    · subst h; simp
    · have : (a == s) = false := by
        apply Bool.eq_false_iff.mpr
        intro e
        exact h (eq_of_beq e).symm
      rw [this, Bool.false_or]
      exact decide_eq_decide.mpr ⟨fun m => List.mem_cons_of_mem _ m, fun m => (List.mem_cons.mp m).elim (fun e => absurd e h) id⟩
theorem flat_strs (ss : List Str) : (ss.map V.str).all flatV = true := List.all_eq_true.mpr fun v hv => by obtain ⟨s, _, rfl⟩ := List.mem_map.mp hv; rfl
section
variable {H0 H H' : Hp} {ft : List Addr} {l : List Cell} {t : Nat} {a p : Addr} {K : PySem.W.Frag} {σ : L2.St} {Q : VK} {v x y z : V} {i j : Int}
theorem op_inK {X : Cx} (K : PySem.W.Frag) (h : X.K = K := by rfl) : OpR X (compareOp .In) (rIn K false) := by subst h; exact op_in_seq
theorem op_niK {X : Cx} (K : PySem.W.Frag) (h : X.K = K := by rfl) : OpR X (compareOp .NotIn) (rIn K true) := by subst h; exact op_notIn_seq
theorem x_inS {s : Str} {ss : List Str} (S : Sep H0 ft H l) (n : Nat) (h : l[n]? = some (t, p, .lst (ss.map V.str))) (q : Q (.bl (decide (s ∈ ss))) H) : rIn K false (.str s) (.ref p) H Q :=
  ⟨p, _, rfl, .inl (S.sl n h), rfl, flat_strs ss, by rw [inV_str]; exact q⟩
theorem x_niS {s : Str} {ss : List Str} (S : Sep H0 ft H l) (n : Nat) (h : l[n]? = some (t, p, .lst (ss.map V.str))) (q : Q (.bl (!decide (s ∈ ss))) H) : rIn K true (.str s) (.ref p) H Q :=
  ⟨p, _, rfl, .inl (S.sl n h), rfl, flat_strs ss, by rw [inV_str]; exact q⟩
def rAddS : V → V → Hp → VK → Prop := fun x y H Q => ∃ i j, x = .str i ∧ y = .str j ∧ i.length + j.length ≤ sizeLine ∧ Q (.str (i ++ j)) H
theorem op_addS {X : Cx} : OpR X (binaryOp .Add) rAddS := op_add_str
theorem x_addS {a b : Str} (h : a.length + b.length ≤ 100000) (q : Q (.str (a ++ b)) H) : rAddS (.str a) (.str b) H Q := ⟨a, b, rfl, rfl, Nat.le_trans h (by decide), q⟩
theorem x_slStr {s : Str} {lo hi : Option Int} (h : s.length ≤ 100000) (q : Q (.str (cutS s lo hi)) H) : rSlS (.str s) lo hi H Q := ⟨s, rfl, Nat.le_trans h (by decide), q⟩
def rJoin (K : PySem.W.Frag) : V → List V → Hp → VK → Prop := fun x xs H Q => ∃ a p, ∃ ys : List Str, x = .str a ∧ xs = [.ref p] ∧ (SqL K H p (ys.map V.str) ∨ SqT K H p (ys.map V.str)) ∧ (ys.map (·.length)).sum + ys.length * a.length ≤ 16777216 ∧ Q (.str (Txt.join a ys)) H
theorem mt_joinK {X : Cx} (K : PySem.W.Frag) (h : X.K = K := by rfl) : MtR X "str.join" (rJoin K) := by subst h; exact mt_join
theorem x_joinS {s : Str} {ys : List Str} (S : Sep H0 ft H l) (n : Nat) (h : l[n]? = some (t, p, .lst (ys.map V.str))) (hl : (ys.map (·.length)).sum + ys.length * s.length ≤ 16777216) (q : Q (.str (Txt.join s ys)) H) : rJoin K (.str s) [.ref p] H Q := ⟨s, p, ys, rfl, rfl, .inl (S.sl n h), hl, q⟩
theorem x_lcappS {ss : List Str} {s : Str} {R : Hp → Prop} (S : Sep H0 ft H l) (n : Nat) (h : l[n]? = some (t, p, .lst (ss.map V.str))) (hl : ss.length < 100000) (q : ∀ H', Sep H0 ft H' (l.set n (t, p, .lst ((ss ++ [s]).map V.str))) → R H') (ht : t = 1 ∨ t = 2 := by first | exact .inl rfl | exact .inr rfl) :
    rLcA p (.str s) H R := x_lcapp S n h (by rw [List.length_map]; exact hl) (fun H' S' => q H' (by rw [List.map_append]; exact S')) ht
theorem x_appS {ss : List Str} {s : Str} (S : Sep H0 ft H l) (n : Nat) (h : l[n]? = some (t, p, .lst (ss.map V.str))) (hl : ss.length < 100000) (q : ∀ H', Sep H0 ft H' (l.set n (t, p, .lst ((ss ++ [s]).map V.str))) → Q .non H') (ht : t = 1 ∨ t = 2 := by first | exact .inl rfl | exact .inr rfl) :
    rAppend (.ref p) [.str s] H Q := x_app S n h (by rw [List.length_map]; exact hl) (fun H' S' => q H' (by rw [List.map_append]; exact S')) ht
def rStr : V → Hp → (It → Hp → Prop) → Prop := fun v H R => ∃ x, v = .str x ∧ R (Its x) H
def iStr1 (te : TE) : TI := fun σ H R => te σ H fun v H1 => rStr v H1 R
theorem pi_str1 {X : Cx} {tg e : Expr} {te : TE} (he : PE X e te) : PI X tg e (iStr1 te) := pi_str he
theorem x_istr {s : Str} {R : It → Hp → Prop} (q : R (Its s) H) : rStr (.str s) H R := ⟨s, rfl, q⟩
end
/-- small letters alone -/
def Low (s : Str) : Prop := ∀ c ∈ s.cps.toList, 97 ≤ c ∧ c ≤ 122
/-- a name: one to eight small letters -/
structure OkN (s : Str) : Prop where
  l1 : 1 ≤ s.length
  l8 : s.length ≤ 8
  low : Low s
def IsN (v : V) : Prop := ∃ s, v = .str s ∧ OkN s
theorem Low.app {a b : Str} (h : Low a) (h' : Low b) : Low (a ++ b) := fun c hc => by
  have : c ∈ a.cps.toList ++ b.cps.toList := by
    rw [← Array.toList_append]; exact hc
  exact (List.mem_append.mp this).elim (h c) (h' c)
theorem Low.cut {z : Str} {lo hi : Option Int} (h : Low z) : Low (cutS z lo hi) := fun c hc => by
  unfold cutS at hc
  exact h c (List.mem_of_mem_drop (List.mem_of_mem_take hc))
theorem Low.join : ∀ {ys : List Str}, (∀ y ∈ ys, Low y) → Low (Txt.join "" ys) := by
  intro ys h
  rw [TL.join_eq]
  induction ys with
  | nil => exact fun c hc => by cases hc
  | cons y r ih =>
    cases r with
    | nil => exact h y List.mem_cons_self
    | cons z r => exact ((h y List.mem_cons_self).app (fun c hc => by cases hc)).app (ih fun w hw => h w (List.mem_cons_of_mem _ hw))
theorem lay_strs : ∀ {ss : List Str}, (∀ s ∈ ss, Low s) → PyData.canLayAll0 (ss.map PyData.str) = true
  | [], _ => rfl
  | s :: r, h => by
    rw [List.map_cons, PyData.canLayAll0, lay_strs fun w hw => h w (List.mem_cons_of_mem _ hw), Bool.and_true]
    show PyData.strOk s = true
    have := h s List.mem_cons_self
    unfold PyData.strOk
    rw [← Array.all_toList]
    exact List.all_eq_true.mpr fun c hc => decide_eq_true (by have := (this c hc).2; omega)
theorem dep_strs : ∀ ss : List Str, PyData.depthAll (ss.map PyData.str) = 0
  | [] => rfl
  | n :: r => by rw [List.map_cons, PyData.depthAll, dep_strs r]; rfl
theorem sh_strs {ss : List Str} (h : ∀ s ∈ ss, Low s) : SeqAt.shaped (.list (ss.map PyData.str)) = true := by
  unfold SeqAt.shaped
  rw [show PyData.canLay0 (.list (ss.map PyData.str)) = true from lay_strs h, PyData.depth, dep_strs]
  rfl
theorem eqv_strs (ns ms : List Str) : PyData.eqv (.list (ns.map PyData.str)) (.list (ms.map PyData.str)) = decide (ns = ms) := PySem.W.Datum.eqv (α := List Str) ns ms
theorem dp_strs {K : PySem.W.Frag} {H : Hp} : ∀ {ss : List Str}, DpAll K H (ss.map V.str) (ss.map PyData.str)
  | [] => .nil
  | s :: r => .cons (.str s) dp_strs
theorem x_neS {K : PySem.W.Frag} {H0 H : Hp} {ft : List Addr} {l : List Cell} {t t' : Nat} {p q : Addr} {ss ts : List Str} {Q : VK} (S : Sep H0 ft H l) (n m : Nat) (h : l[n]? = some (t, p, .lst (ss.map V.str))) (h' : l[m]? = some (t', q, .lst (ts.map V.str))) (hs : ∀ s ∈ ss, Low s) (ht : ∀ s ∈ ts, Low s) (k : Q (.bl (!decide (ss = ts))) H) : rNeD K (.ref p) (.ref q) H Q :=
  ⟨_, _, .lst (S.sl n h) dp_strs, .lst (S.sl m h') dp_strs, sh_strs hs, sh_strs ht, by rw [eqv_strs]; exact k⟩
theorem at0 {α : Type} {x : α} {xs : List α} : atI (x :: xs) 0 = some x := by
  have := atI_nat (xs := x :: xs) (j := 0) (v := x) rfl
  exact this
theorem sum_ones : ∀ {ys : List Str}, (∀ s ∈ ys, s.length = 1) → (ys.map (·.length)).sum = ys.length
  | [], _ => rfl
  | y :: r, h => by rw [List.map_cons, List.sum_cons, h y List.mem_cons_self, sum_ones fun s m => h s (List.mem_cons_of_mem _ m), List.length_cons]; omega
end G

set_option linter.all false
set_option maxRecDepth 100000
set_option maxHeartbeats 2000000
/-! a, *rest = a tuple -/
namespace G
open PySem PySem.Spec PyProof.Rows
theorem nolen_ti : typeLookup (.type "tuple_iterator") "__len__" = pure none := by rw [typeLookup_type, builtinLookup_eq_fast]; kernel_rfl
theorem hint_ti : typeLookup (.type "tuple_iterator") "__length_hint__" = pure (some (.builtin "tuple_iterator.__length_hint__")) := by rw [typeLookup_type, builtinLookup_eq_fast]; kernel_rfl
section
variable {prog : Program} {w : World} {A : Around} {E : Value → Shared → Prop} {s : Shared}
theorem walks_shift {I : Addr} {fp wr : List Addr} {n k : Nat} {P : Nat → Value → Prop} {St : Nat → Heap → Prop} (W : Walks prog w A I fp wr n P St) (hk : k ≤ n) : Walks prog w A I fp wr (n - k) (fun i v => P (k + i) v) (fun i h => St (k + i) h) where
  sub := W.sub
  frame := fun i h h' st hf => W.frame (k + i) h h' st hf
  item := fun i s Q E hi st hQ => W.item (k + i) s Q E (by omega) st hQ
  done := fun s Q E st hQ => W.done s Q E (by have e : k + (n - k) = n := by omega
                                              rw [e] at st; exact st) hQ
  self := fun i s Q E st hQ => W.self (k + i) s Q E st hQ
theorem collect_ti {it t : Addr} {items : Array Value} {k : Nat} {Q : List Value → Shared → Prop} (hh : A.handled = none) (hit : s.heap.IsTupleIter it t k) (ht : s.heap.IsTuple t items) (hne : t ≠ it) (hk : k ≤ items.size) (hn : items.size ≤ sizeLine)
    (hQ : ∀ (h' : Heap) (tk : Nat) (acc : Array Value), (∀ b o, b ≠ it → s.heap.get? b = some o → h'.get? b = some o) → ItemsOf (fun i v => items[k + i]? = some v) acc (items.size - k) → Q acc.toList { s with heap := h', toks := tk }) :
    wpAny (model prog w) A (collect (.ref it)) Q E s := by
  have W := (walks_shift (Walks.tuple (prog := prog) (w := w) (A := A.in1) hh it t hne items) hk).toS
  obtain ⟨oi, hoi, hci, _⟩ := id hit
  obtain ⟨ol, hol, _⟩ := id ht
  have hSi : s.heap.objs.size ≠ it := Nat.ne_of_gt (Heap.lt_size hoi)
  have hSl : s.heap.objs.size ≠ t := Nat.ne_of_gt (Heap.lt_size hol)
  have hSf : s.heap.objs.size ∉ [it, t] := by simp only [List.mem_cons, List.not_mem_nil, or_false, not_or]; exact ⟨hSi, hSl⟩
  unfold collect
  refine wpAny_bind (wpAny_runValue (codeAny_builtin F.entry_proto_collect ?_))
  rw [Around.under_plainId F.plain_proto_collect _]
  show wpAny _ A.in1 (newList [] >>= fun l' => again (.builtin "list.__iadd__" ⟨[l', .ref it], []⟩)) _ _ s
  refine wpAny_bind (wpAny_newObj_type ?_)
  refine wpAny_pure ⟨plainId_quiet F.plain_list_iadd _, codeAny_builtin F.entry_list_iadd ?_⟩
  rw [Around.under_plainId F.plain_list_iadd _]
  have hS₁ : (s.heap.push { cls := .type "list", data := .seq ([] : List Value).toArray }).get? s.heap.objs.size = some { cls := .type "list", data := .seq ([] : List Value).toArray } := Heap.get?_push_size _ rfl
  have hit1 : (s.heap.push { cls := .type "list", data := .seq ([] : List Value).toArray }).IsTupleIter it t k := hit.at fun o e => Heap.get?_push_of_some _ e
  have ht1 : (s.heap.push { cls := .type "list", data := .seq ([] : List Value).toArray }).IsTuple t items := ht.at fun o e => Heap.get?_push_of_some _ e
  have hT : ({ s with heap := s.heap.push { cls := .type "list", data := .seq ([] : List Value).toArray } } : Shared).TypeIs (.ref it) "tuple_iterator" := ⟨oi, Heap.get?_push_of_some _ hoi, hci⟩
  have h1 : Builtin.List.listSameRef (.ref s.heap.objs.size) (.ref it) = false := by simp [Builtin.List.listSameRef, hSi]
  show wpAny _ A.in1 (Builtin.List.listExtendWith (.ref s.heap.objs.size) (.ref it) (.ref s.heap.objs.size)) _ _ _
  unfold Builtin.List.listExtendWith
  refine wpAny_bind (wpAny_typeOf hT ?_)
  rw [if_neg (by rw [h1]; decide)]
  refine wpAny_bind (wpAny_pyIter_tupleiter (s := { s with heap := s.heap.push { cls := .type "list", data := .seq ([] : List Value).toArray } }) hit1 ?_)
  refine wpAny_bind (wpAny_holding ?_)
  unfold Builtin.List.listLengthHint
  refine wpAny_bind (wpAny_specialOf hT nolen_ti ?_)
  show wpAny _ A.in1 (specialOf (Value.ref it) (Str.ofString "__length_hint__") >>= _) _ _ _
  refine wpAny_bind (wpAny_specialOf hT hint_ti ?_)
  generalize hid : ("tuple_iterator.__length_hint__" : String) = id0
  wp_delta
  rw [show splitId id0 = some ("tuple_iterator", "__length_hint__") from by subst hid; decide +kernel]
  subst hid
  refine wpAny_bind (wpAny_isInstance (b := true) hT (by rw [isSubtype_type]; kernel_rfl) ?_)
  refine wpAny_pure ?_
  rw [if_neg (by decide)]
  refine wpAny_pure ⟨plainId_quiet F.plain_extend_loop _, codeAny_extend_loopS W (by omega) _ hSf _ (items.size - k) 0 _ _ _ rfl (Nat.zero_le _) ⟨hit1, ht1⟩ hS₁ (ItemsOf.nil _) fun s' acc' c' hm hS' hacc => ?_⟩
  show wpAny _ A (load s.heap.objs.size >>= _) _ _ s'
  refine wpAny_bind (wpAny_load hS' ?_)
  refine wpAny_pure ?_
  rw [Moved.eq_with hm]
  refine hQ s'.heap s'.toks acc' (fun b o hb e => hm.heap b o (fun hmem => ?_) (Heap.get?_push_of_some _ e)) hacc
  rcases List.mem_cons.mp hmem with e' | hmem
  · exact absurd (Heap.lt_size e) (by rw [e']; exact Nat.lt_irrefl _)
  · exact hb (List.mem_singleton.mp hmem)
theorem unpackItems_star {t : Addr} {items : Array Value} {k : Nat} {Q : List Value → Shared → Prop} (hh : A.handled = none) (ht : IsTup s.heap t items) (hk : k ≤ items.size) (hn : items.size ≤ sizeLine)
    (hQ : ∀ (h' : Heap) (tk : Nat), Heap.ExtBut s.heap.objs.size s.heap h' → Q (items.toList.take k ++ [.ref h'.objs.size]) { s with heap := h'.push { cls := .type "list", data := .seq (items.toList.drop k).toArray }, toks := tk }) : wpAny (model prog w) A (unpackItems (.ref t) (k + 1) (some k)) Q E s := by
  have hlt : t ≠ s.heap.objs.size := by obtain ⟨o, ho, _⟩ := ht; exact Nat.ne_of_lt (Heap.lt_size ho)
  unfold unpackItems
  refine wpAny_bind ?_
  · unfold notIterableAtAll
    refine wpAny_bind (wpAny_specialOf ht.typeIs slot_tuple_iter.lookup ?_)
    refine wpAny_pure ?_
    simp only [Bool.false_eq_true, if_false]
    refine wpAny_bind (wpAny_holding (iter_tuple ht ?_))
    refine wpAny_bind (wpAny_holding (draw_tuple hlt k 0 _ _ ⟨_, Heap.get?_push_size _ rfl, rfl, rfl⟩ (ht.push _) (by omega) fun h₁ hit₁ hs₁ => ?_))
    rw [List.drop_zero]
    have hl1 : (items.toList.take k).length = k := by rw [List.length_take, Array.length_toList]; omega
    rw [if_neg (by rw [hl1]; omega)]
    have ht₁ : IsTup h₁ t items := (ht.push _).extBut hs₁.extBut hlt
    rw [Nat.zero_add] at hit₁
    refine wpAny_bind (wpAny_holding (collect_ti hh (s := { s with heap := h₁ }) (k := k) hit₁ ht₁ hlt hk hn fun h₂ tk acc hx hacc => ?_))
    have hall : acc.toList = items.toList.drop k := by
      apply List.ext_getElem?
      intro j
      rw [List.getElem?_drop]
      by_cases hj : j < acc.size
      · have e1 : acc.toList[j]? = some acc[j] := by rw [Array.getElem?_toList, Array.getElem?_eq_getElem hj]
        have := hacc.2 j acc[j] (Array.getElem?_eq_getElem hj)
        rw [e1, Array.getElem?_toList, this]
      · have hs := hacc.1
        rw [List.getElem?_eq_none (by rw [Array.length_toList]; omega), List.getElem?_eq_none (by rw [Array.length_toList]; omega)]
    rw [hall]
    rw [show k + 1 - 1 - k = 0 by omega]
    rw [if_neg (by omega), Nat.sub_zero, List.take_length, List.drop_length]
    refine wpAny_bind (wpAny_newList ?_)
    refine wpAny_pure ?_
    rw [List.append_nil]
    exact hQ h₂ tk fun b o hb e => hx b o hb (hs₁.extBut b o hb (Heap.get?_push_of_some _ e))
end
end G
namespace L2
open PySem PySem.Spec PyProof.Rows
section
variable {X : Cx} {pos : Pos}
/-- (a, .., *rest) = a tuple -/
def gStar (K : PySem.W.Frag) (k : Nat) (t : TGs) : TG := fun v σ H Q => ∃ a xs, v = .ref a ∧ SqT K H a xs ∧ k ≤ xs.length ∧ ∀ r, H r = none → t (xs.take k ++ [.ref r]) σ (upd H r (.lst (xs.drop k))) Q
theorem vals_take : ∀ {xs : List V} {us : List Value} (k : Nat), Vals xs us → Vals (xs.take k) (us.take k)
  | _, _, 0, _ => .nil
  | _, _, _ + 1, .nil => .nil
  | _, _, k + 1, .cons r h => .cons r (vals_take k h)
theorem vals_drop : ∀ {xs : List V} {us : List Value} (k : Nat), Vals xs us → Vals (xs.drop k) (us.drop k)
  | _, _, 0, h => h
  | _, _, _ + 1, .nil => .nil
  | _, _, k + 1, .cons _ h => vals_drop k h
theorem pgs_star {e : Expr} {p : Pos} {t : TG} (h1 : PG X e t) : PGs X [.Starred e p] (gCons t gNil) := by
  refine ⟨fun pins s σ H vs us Q I r h => ?_⟩
  obtain ⟨v, vr, e1, h⟩ := h
  subst e1
  cases r with
  | cons r rr =>
    show wpAny _ _ (assignInOrder [assign e X.env] _) _ _ _
    refine assignInOrder_cons (thn (h1.run pins s σ H _ _ _ I r h) fun _ s1 ⟨σ1, H1, I1, q1⟩ => ?_)
    obtain ⟨e2, q1⟩ := q1
    subst e2
    cases rr
    exact assignInOrder_nil ⟨σ1, H1, I1, q1⟩
theorem pg_star {es : List Expr} {j : Nat} {t : TGs} (K : PySem.W.Frag) (k : Nat) (hc : X.calm = true) (h : PGs X es t) (hn : (assignEach es X.env).length = k + 1 := by rfl) (hst : (assignEach es X.env).findIdx? (·.1) = some k := by rfl) (hK : X.K = K := by rfl) : PG X (.Tuple es j pos) (gStar K k t) := by
  subst hK
  refine ⟨fun pins s σ H v u Q I r hw => ?_⟩
  obtain ⟨a, xs, e1, hq, hl, hw⟩ := hw
  subst e1
  cases r
  obtain ⟨its, rv, ht, hz⟩ := I.tuple hq
  rw [PyProof.Rows.assign_Tuple]
  refine wpAny_bind (wpAny_standAt ?_)
  unfold unpack
  rw [hn, hst]
  have hlen := rv.length
  refine wpAny_bind (wpAny_holding (G.unpackItems_star (I.ok.hd hc) ht (by rw [List.size_toArray]; omega) (by rw [List.size_toArray]; omega) fun h' tk hx => ?_))
  have I1 : Inv X pins σ H { s with heap := h', toks := tk } := I.kept (t' := tk) fun b o e => hx b o (Nat.ne_of_lt (Heap.lt_size e)) e
  have I2 := I1.lnew (ys := xs.drop k) (its := its.drop k) (t' := tk) (vals_drop k rv) (by rw [List.length_drop]; omega)
  exact h.run pins _ σ _ (xs.take k ++ [.ref h'.objs.size]) _ Q I2 ((vals_take k rv).append (show Vals [V.ref h'.objs.size] [Value.ref h'.objs.size] from .cons rfl .nil)) (hw _ I1.fresh)
end
end L2

set_option linter.all false
set_option maxRecDepth 100000
/-! cells in a tail; star targets over the cells -/
namespace G
open PySem PySem.Spec PyProof.Rows L2
section
variable {H0 H H' : Hp} {ft : List Addr} {l l' m T : List Cell} {t : Nat} {a p : Addr} {o u : HO} {K : PySem.W.Frag} {σ : L2.St} {Q : VK} {v x y z : V} {i j : Int}
theorem Sep.perm (S : Sep H0 ft H l) (p : l'.Perm l) : Sep H0 ft H l' :=
  ⟨(p.map _).nodup_iff.mpr S.nd, fun c hc => S.rd c (p.mem_iff.mp hc), S.fr, fun c hc => S.wr c (p.mem_iff.mp hc), fun c hc => S.nw c (p.mem_iff.mp hc), S.ex⟩
/-- the new ones go behind the first n -/
theorem Sep.tail (S : Sep H0 ft H (m ++ l)) (n : Nat) : Sep H0 ft H (l.take n ++ (m ++ l.drop n)) := by
  refine S.perm ?_
  have h := List.perm_append_comm_assoc (l.take n) m (l.drop n)
  rw [List.take_append_drop] at h
  exact h
theorem Sep.callM (S : Sep H0 ft H l) (us : List (Nat × Cell)) (hi : AllP (fun u : Nat × Cell => ∃ o, l[u.1]? = some (u.2.1, u.2.2.1, o) ∧ (u.2.1 = 1 ∨ u.2.1 = 2)) us) (hn : (us.map (·.1)).Nodup) (S' : Sep H (us.map (·.2.2.1)) H' (m ++ us.map (fun u => (1, u.2.2)))) (hm : ∀ c ∈ m, c.1 = 2) :
    Sep H0 ft H' (m ++ us.foldl (fun l u => l.set u.1 u.2) l) := by
  have hi1 : ∀ u ∈ us, ∃ o, l[u.1]? = some (u.2.1, u.2.2.1, o) := fun u hu => let ⟨o, h, _⟩ := hi.all u hu; ⟨o, h⟩
  have S1 := S.chgs us hi1 (fun u hu => let ⟨_, _, h⟩ := hi.all u hu; h) hn S'.fr (fun u hu => S'.rd (1, u.2.2) (List.mem_append_right _ (List.mem_map.mpr ⟨u, hu, rfl⟩)))
  exact S.join S1 (fold_addr hi1 hn) S' hm
theorem Sep.cellT (S : Sep H0 ft H l) (n : Nat) {c : Cell} (h : c ∈ l.drop n) : H c.2.1 = some c.2.2 := S.rd c (List.mem_of_mem_drop h)
theorem cl_listK2 : True := trivial
/-- a cell of the tail -/
theorem Sep.cell (S : Sep H0 ft H l) {c : Cell} (h : c ∈ l) : H c.2.1 = some c.2.2 := S.rd c h
theorem x_star {n : Nat} {xs : List V} {tg : TGs} {Qg : L2.St → Hp → Prop} (S : Sep H0 ft H l) (h : SqT K H p xs) (hl : n ≤ xs.length) (q : ∀ r H', Sep H0 ft H' ((2, r, .lst (xs.drop n)) :: l) → tg (xs.take n ++ [.ref r]) σ H' Qg) : gStar K n tg (.ref p) σ H Qg :=
  ⟨p, xs, rfl, h, hl, fun r hr => q r _ (S.new hr _)⟩
theorem x_ixTf {xs : List V} (h : H p = some (.tup xs)) (ha : atI xs i = some v) (q : Q v H) : rIxT K (.ref p) (.int i) H Q := ⟨p, xs, i, v, rfl, rfl, .of h, ha, q⟩
theorem x_catT {q1 : Addr} {t' : Nat} {xs ys : List V} (S : Sep H0 ft H l) (n m : Nat) (h : l[n]? = some (t, p, .tup xs)) (h' : l[m]? = some (t', q1, .tup ys)) (h0 : xs ≠ []) (h1 : ys ≠ []) (hl : xs.length + ys.length ≤ 100000) (q : ∀ r H', Sep H0 ft H' ((2, r, .tup (xs ++ ys)) :: l) → Q (.ref r) H') : rCatT K (.ref p) (.ref q1) H Q :=
  ⟨p, q1, xs, ys, rfl, rfl, S.st n h, S.st m h', h0, Nat.le_trans hl (by decide), fun e => absurd e h1, fun _ => x_new S _ q⟩
theorem op_catTK {X : Cx} (K : PySem.W.Frag) (h : X.K = K := by rfl) : OpR X (binaryOp .Add) (rCatT K) := by subst h; exact op_catT
theorem x_dgetF {od : Obj} {kvs : List (Key × V)} {k : Key} (S : Sep H0 ft H l) (n : Nat) (h : l[n]? = some (t, p, .frz od (.dK kvs))) (hv : valV kvs k = some v) (q : Q v H) : rDGet (.ref p) (kV k) H Q := ⟨p, v, rfl, .inl ⟨kvs, k, .inr ⟨od, S.get n h⟩, rfl, hv.symm⟩, q⟩
end
end G

set_option linter.all false
set_option maxRecDepth 100000
set_option maxHeartbeats 4000000
namespace G
open PySem PySem.Spec PyProof.Rows L2
def topS (i : Nat) : Stmt := PySem.Challenge.pw_farasked_k49_stores_told.main.body.getD i (.Pass ⟨0, 0, 0, 0⟩)
def R_drw (dg : Addr) (dc : Addr) (dr : Int) (dt : Int) (dm : Int) : List (Key × V) := [((.inr ("great" : Str) : Key), V.ref dg), ((.inr ("cells" : Str) : Key), V.ref dc), ((.inr ("rest" : Str) : Key), V.int dr), ((.inr ("turn" : Str) : Key), V.int dt), ((.inr ("more" : Str) : Key), V.int dm)]
theorem vl_drw_great {dg : Addr} {dc : Addr} {dr : Int} {dt : Int} {dm : Int} : valV (R_drw dg dc dr dt dm) (.inr ("great" : Str) : Key) = some (V.ref dg) := by kernel_rfl
theorem pk_drw_great {dg : Addr} {dc : Addr} {dr : Int} {dt : Int} {dm : Int} {z9 : Addr} : putK (R_drw dg dc dr dt dm) (.inr ("great" : Str) : Key) (V.ref z9) = R_drw z9 dc dr dt dm := by kernel_rfl
theorem vl_drw_cells {dg : Addr} {dc : Addr} {dr : Int} {dt : Int} {dm : Int} : valV (R_drw dg dc dr dt dm) (.inr ("cells" : Str) : Key) = some (V.ref dc) := by kernel_rfl
theorem pk_drw_cells {dg : Addr} {dc : Addr} {dr : Int} {dt : Int} {dm : Int} {z9 : Addr} : putK (R_drw dg dc dr dt dm) (.inr ("cells" : Str) : Key) (V.ref z9) = R_drw dg z9 dr dt dm := by kernel_rfl
theorem vl_drw_rest {dg : Addr} {dc : Addr} {dr : Int} {dt : Int} {dm : Int} : valV (R_drw dg dc dr dt dm) (.inr ("rest" : Str) : Key) = some (V.int dr) := by kernel_rfl
theorem pk_drw_rest {dg : Addr} {dc : Addr} {dr : Int} {dt : Int} {dm : Int} {z9 : Int} : putK (R_drw dg dc dr dt dm) (.inr ("rest" : Str) : Key) (V.int z9) = R_drw dg dc z9 dt dm := by kernel_rfl
theorem vl_drw_turn {dg : Addr} {dc : Addr} {dr : Int} {dt : Int} {dm : Int} : valV (R_drw dg dc dr dt dm) (.inr ("turn" : Str) : Key) = some (V.int dt) := by kernel_rfl
theorem pk_drw_turn {dg : Addr} {dc : Addr} {dr : Int} {dt : Int} {dm : Int} {z9 : Int} : putK (R_drw dg dc dr dt dm) (.inr ("turn" : Str) : Key) (V.int z9) = R_drw dg dc dr z9 dm := by kernel_rfl
theorem vl_drw_more {dg : Addr} {dc : Addr} {dr : Int} {dt : Int} {dm : Int} : valV (R_drw dg dc dr dt dm) (.inr ("more" : Str) : Key) = some (V.int dm) := by kernel_rfl
theorem pk_drw_more {dg : Addr} {dc : Addr} {dr : Int} {dt : Int} {dm : Int} {z9 : Int} : putK (R_drw dg dc dr dt dm) (.inr ("more" : Str) : Key) (V.int z9) = R_drw dg dc dr dt z9 := by kernel_rfl
theorem mg_drw {dg : Addr} {dc : Addr} {dr : Int} {dt : Int} {dm : Int} : mergeK [] (R_drw dg dc dr dt dm) = R_drw dg dc dr dt dm := by kernel_rfl
theorem ln_drw {dg : Addr} {dc : Addr} {dr : Int} {dt : Int} {dm : Int} : (R_drw dg dc dr dt dm).length < 100000 := by show 5 < 100000; decide

structure Drw (r t m : Int) (gs : List Int) : Prop where
  r0 : 0 ≤ r
  t0 : 0 ≤ t
  m0 : 0 ≤ m
  m1 : m < 2147483647
  gp : ∀ g ∈ gs, 0 ≤ g
  gl : gs.length ≤ 1000
def spLTake : Sp := fun vs H Q _ => ∃ (dp dg dc : Addr) (dr dt dm many : Int) (gs cs : List Int), vs = [.ref dp, .int many] ∧ Sep H [dp, dg] H [(1, dp, .dK (R_drw dg dc dr dt dm)), (1, dg, .lst (gs.map V.int)), (0, dc, .lst (cs.map V.int))] ∧ Drw dr dt dm gs ∧ 0 < many ∧ many < 2 ^ 200 ∧
  ∀ (v dr' dt' dm' : Int) (gs' : List Int) (H' : Hp), 0 ≤ v → v < many → Drw dr' dt' dm' gs' → H' dp = some (.dK (R_drw dg dc dr' dt' dm')) → H' dg = some (.lst (gs'.map V.int)) → (∀ b o, H b = some o → b ≠ dp → b ≠ dg → H' b = some o) → Q (.int v) H'
theorem c_ltake {H0 H : Hp} {ft : List Addr} {l : List Cell} {t1 t2 t3 : Nat} {dp dg dc : Addr} {dr dt dm many : Int} {gs cs : List Int} {Q : VK} {E : XK} (S : Sep H0 ft H l) (i j k : Nat) (hi : l[i]? = some (t1, dp, .dK (R_drw dg dc dr dt dm))) (hj : l[j]? = some (t2, dg, .lst (gs.map V.int))) (hk : l[k]? = some (t3, dc, .lst (cs.map V.int)))
    (h : Drw dr dt dm gs) (hm : 0 < many) (hm2 : many < 2 ^ 200) (q : ∀ (v dr dt dm : Int) (gs : List Int) (H' : Hp), 0 ≤ v → v < many → Drw dr dt dm gs → Sep H0 ft H' ((l.set i (t1, dp, .dK (R_drw dg dc dr dt dm))).set j (t2, dg, .lst (gs.map V.int))) → Q (.int v) H')
    (hn : [i, j, k].Nodup := by decide) (ht1 : t1 = 1 ∨ t1 = 2 := by first | exact .inl rfl | exact .inr rfl) (ht2 : t2 = 1 ∨ t2 = 2 := by first | exact .inl rfl | exact .inr rfl) : spLTake [.ref dp, .int many] H Q E :=
  ⟨dp, dg, dc, dr, dt, dm, many, gs, cs, rfl, by
    have g3 := S.give3 i j k hi hj hk hn
    exact (g3.retag rfl (by simp) (by simp) (by simp)), h, hm, hm2, fun v dr' dt' dm' gs' H' h0 h1 hd e1 e2 F => q v dr' dt' dm' gs' H' h0 h1 hd (S.chg2 i j hi hj (fun z => by subst z; simp at hn) F e1 e2 ht1 ht2)⟩
theorem nosl : True := trivial
section
variable {P : Program} {w : World} {K : PySem.W.Frag} {mg : Str → Option Value} {base : Heap}
abbrev s_law_take : Stmt := (topS 4)
theorem sc_law_take : FnScope ["_law_draw", "_law_many", "_law_found", "_law_cell", "_law_mixed"] ["_law_draw", "_law_many"] (defScope s_law_take) := ⟨rfl, rfl, rfl, by decide +kernel, rfl, by decide +kernel, by decide +kernel⟩
theorem ok_law_take {f : Addr} {fd : FuncData} (F : L2.Fun K "_law_take" "_law_take" s_law_take f fd) (z_len : mg "len" = none) : FnOk P w K mg base CX0 1 f fd ["_law_draw", "_law_many"] spLTake := by
  refine F.ok sc_law_take (fun vs H Q E h => ?_) (fun cdv A outer s H0 vs Q E hr h => ?_)
  · obtain ⟨dp, dg, dc, dr, dt, dm, many, gs, cs, rfl, S, hd, hm, hm2, k⟩ := h
    rfl
  · obtain ⟨dp, dg, dc, dr, dt, dm, many, gs, cs, rfl, S, hd, hm, hm2, k⟩ := h
    have hu := hu_of hr

    refine ⟨_, pss_cons (ps_while PassesOwn.never ((pw_and (pt_cmpR op_eq (pe_dget1v hu (pv 0) (pe_str) (fun _ _ => rfl)) (pe_int) (nomark _)) (pw_and1 (pt_cmpR (op_neDK K hr.units) (pe_dget1v hu (pv 0) (pe_str) (fun _ _ => rfl)) (pe_lst1 pa_nil) (nomark _)))).pt) (pss_one (ps_dput1 hu (pv 0) (pe_str) (pe_bm PySem.F.plainAttrs_list PySem.F.slot_list_pop PySem.F.type_list_pop mt_popAt (pe_dget1v hu (pv 0) (pe_str) (fun _ _ => rfl)) (pa_cons (pe_int) pa_nil)) rfl)))
      (pss_cons (ps_if (pt_cmpR op_gt (pe_dget1v hu (pv 0) (pe_str) (fun _ _ => rfl)) (pe_int) (nomark _)) (pss_cons (ps_set (i := 2) sc_law_take.nd rfl (.inl rfl) (pe_op op_mod (pe_dget1v hu (pv 0) (pe_str) (fun _ _ => rfl)) (pv 1)))
      (pss_cons (ps_dput1 hu (pv 0) (pe_str) (pe_op op_fdivW (pe_dget1v hu (pv 0) (pe_str) (fun _ _ => rfl)) (pv 1)) rfl)
      (pss_one (ps_ret (pv 2))))) (pss_nil))
      (pss_cons (ps_set (i := 3) sc_law_take.nd rfl (.inl rfl) (pe_int))
      (pss_cons (ps_if (pt_cmpR (op_neDK K hr.units) (pe_dget1v hu (pv 0) (pe_str) (fun _ _ => rfl)) (pe_lst1 pa_nil) (nomark _)) (pss_one (ps_set (i := 3) sc_law_take.nd rfl (.inl rfl) (pe_ix (ix_listK K) (pe_dget1v hu (pv 0) (pe_str) (fun _ _ => rfl)) (pe_op op_mod (pe_dget1v hu (pv 0) (pe_str) (fun _ _ => rfl)) (pe_callB (cl_lenK K) (by rfl) z_len PySem.boot_len (pa_cons (pe_dget1v hu (pv 0) (pe_str) (fun _ _ => rfl)) pa_nil))) (fun _ _ => rfl)))) (pss_nil))
      (pss_cons (ps_dput1 hu (pv 0) (pe_str) (pe_op op_add (pe_dget1v hu (pv 0) (pe_str) (fun _ _ => rfl)) (pe_int)) rfl)
      (pss_cons (ps_dput1 hu (pv 0) (pe_str) (pe_op op_mod (pe_op op_add (pe_op op_add (pe_op op_mul (pe_dget1v hu (pv 0) (pe_str) (fun _ _ => rfl)) (pe_int)) (pv 3)) (pe_op op_mul (pe_int) (pe_dget1v hu (pv 0) (pe_str) (fun _ _ => rfl)))) (pe_int)) rfl)
      (pss_cons (ps_set (i := 4) sc_law_take.nd rfl (.inl rfl) (pe_op op_mod (pe_op op_add (pe_op op_add (pe_op op_mul (pe_dget1v hu (pv 0) (pe_str) (fun _ _ => rfl)) (pe_dget1v hu (pv 0) (pe_str) (fun _ _ => rfl))) (pe_op op_mul (pe_int) (pe_dget1v hu (pv 0) (pe_str) (fun _ _ => rfl)))) (pe_int)) (pe_int)))
      (pss_one (ps_ret (pe_op op_mod (pe_op op_fdivW (pe_op op_mod (pe_op op_mul (pv 4) (pv 4)) (pe_int)) (pe_int)) (pv 1)))))))))), ?_⟩
    rw [show start ["_law_draw", "_law_many", "_law_found", "_law_cell", "_law_mixed"] [V.ref dp, V.int many] = [some (V.ref dp), some (V.int many), none, none, none] from rfl]
    try dsimp only [tSeq, tAsg, gName, tOp, tUn, tCB, tCons, tNil, tCall, tMethK1, tCallK1, tPar3, tRet, tRetN, tDrop, tTest, tB, tC, tNext, tAugS, tAug, sFld1, sFldAug1, tMeth1, tMake, tMakeK1, tSl, tPart, tNoPart, sDPut1, tDPop, tBM, tBM0, tPar, gSub, tChain, tNot, tNotV, tDG1, tDG2, tDNewT1, iKeys1, iEnum1, iList1, iTup1, iRng1, iRng2, List.set_cons_zero, List.set_cons_succ]
    refine x_while (fun m σ H' => ∃ (dr : Int) (gs : List Int), σ = [some (.ref dp), some (.int many), none, none, none] ∧ m = gs.length ∧ Drw dr dt dm gs ∧ Sep H0 [dp, dg] H' [(1, dp, .dK (R_drw dg dc dr dt dm)), (1, dg, .lst (gs.map V.int)), (0, dc, .lst (cs.map V.int))]) (gs.length) ?_ ?_
    · exact ⟨_, _, rfl, rfl, hd, S⟩
    · rintro m σ H ⟨dr, gs, rfl, rfl, hd, S⟩
      try dsimp only [tSeq, tAsg, gName, tOp, tUn, tCB, tCons, tNil, tCall, tMethK1, tCallK1, tPar3, tRet, tRetN, tDrop, tTest, tB, tC, tNext, tAugS, tAug, sFld1, sFldAug1, tMeth1, tMake, tMakeK1, tSl, tPart, tNoPart, sDPut1, tDPop, tBM, tBM0, tPar, gSub, tChain, tNot, tNotV, tDG1, tDG2, tDNewT1, iKeys1, iEnum1, iList1, iTup1, iRng1, iRng2, List.set_cons_zero, List.set_cons_succ]
      refine x_and ?_
      try dsimp only [tSeq, tAsg, gName, tOp, tUn, tCB, tCons, tNil, tCall, tMethK1, tCallK1, tPar3, tRet, tRetN, tDrop, tTest, tB, tC, tNext, tAugS, tAug, sFld1, sFldAug1, tMeth1, tMake, tMakeK1, tSl, tPart, tNoPart, sDPut1, tDPop, tBM, tBM0, tPar, gSub, tChain, tNot, tNotV, tDG1, tDG2, tDNewT1, iKeys1, iEnum1, iList1, iTup1, iRng1, iRng2, List.set_cons_zero, List.set_cons_succ]
      refine x_var (by exact rfl) ?_
      refine x_dget (k := Sum.inr _) S 0 (by exact rfl) vl_drw_rest ?_
      refine x_eq ?_
      refine ⟨_, rfl, ?_⟩
      refine iteq (fun c1 => ?_) (fun c1 => ?_)
      · refine x_var (by exact rfl) ?_
        refine x_dget (k := Sum.inr _) S 0 (by exact rfl) vl_drw_great ?_
        refine x_lst S (by exact Nat.le_of_ble_eq_true rfl) (fun L1 H S => ?_)
        refine x_neL (ys := []) S 2 0 (by exact rfl) (by exact rfl) ?_
        refine ⟨_, rfl, ?_⟩
        refine itend (fun c2 => ?_) (fun c2 => ?_)
        · refine x_turn ?_
          try dsimp only [tSeq, tAsg, gName, tOp, tUn, tCB, tCons, tNil, tCall, tMethK1, tCallK1, tPar3, tRet, tRetN, tDrop, tTest, tB, tC, tNext, tAugS, tAug, sFld1, sFldAug1, tMeth1, tMake, tMakeK1, tSl, tPart, tNoPart, sDPut1, tDPop, tBM, tBM0, tPar, gSub, tChain, tNot, tNotV, tDG1, tDG2, tDNewT1, iKeys1, iEnum1, iList1, iTup1, iRng1, iRng2, List.set_cons_zero, List.set_cons_succ]
          refine x_var (by exact rfl) ?_
          refine x_dget (k := Sum.inr _) S 1 (by exact rfl) vl_drw_great ?_
          rcases gs with _ | ⟨g0, gs⟩
          · exact absurd rfl c2
          refine ⟨x_ty S 2 (by exact rfl), ?_⟩
          refine x_pop0 S 2 (by exact rfl) (fun H S => ?_)
          simp only [List.set_cons_zero, List.set_cons_succ] at S
          refine x_var (by exact rfl) ?_
          refine x_dputR (k := Sum.inr _) S 1 (by exact rfl) pk_drw_rest ln_drw (fun H S => ?_)
          simp only [List.set_cons_zero, List.set_cons_succ] at S
          exact ⟨_, Nat.lt_succ_self _, _, _, rfl, rfl, ⟨hd.gp _ List.mem_cons_self, hd.t0, hd.m0, hd.m1, fun g h => hd.gp g (List.mem_cons_of_mem _ h), Nat.le_of_succ_le hd.gl⟩, S.sub [1, 2, 3]⟩
        · have hr0 := hd.r0
          have ht0 := hd.t0
          have hm0 := hd.m0
          have hm1 := hd.m1
          try dsimp only [tSeq, tAsg, gName, tOp, tUn, tCB, tCons, tNil, tCall, tMethK1, tCallK1, tPar3, tRet, tRetN, tDrop, tTest, tB, tC, tNext, tAugS, tAug, sFld1, sFldAug1, tMeth1, tMake, tMakeK1, tSl, tPart, tNoPart, sDPut1, tDPop, tBM, tBM0, tPar, gSub, tChain, tNot, tNotV, tDG1, tDG2, tDNewT1, iKeys1, iEnum1, iList1, iTup1, iRng1, iRng2, List.set_cons_zero, List.set_cons_succ]
          try dsimp only [tSeq, tAsg, gName, tOp, tUn, tCB, tCons, tNil, tCall, tMethK1, tCallK1, tPar3, tRet, tRetN, tDrop, tTest, tB, tC, tNext, tAugS, tAug, sFld1, sFldAug1, tMeth1, tMake, tMakeK1, tSl, tPart, tNoPart, sDPut1, tDPop, tBM, tBM0, tPar, gSub, tChain, tNot, tNotV, tDG1, tDG2, tDNewT1, iKeys1, iEnum1, iList1, iTup1, iRng1, iRng2, List.set_cons_zero, List.set_cons_succ]
          refine x_if ?_
          try dsimp only [tSeq, tAsg, gName, tOp, tUn, tCB, tCons, tNil, tCall, tMethK1, tCallK1, tPar3, tRet, tRetN, tDrop, tTest, tB, tC, tNext, tAugS, tAug, sFld1, sFldAug1, tMeth1, tMake, tMakeK1, tSl, tPart, tNoPart, sDPut1, tDPop, tBM, tBM0, tPar, gSub, tChain, tNot, tNotV, tDG1, tDG2, tDNewT1, iKeys1, iEnum1, iList1, iTup1, iRng1, iRng2, List.set_cons_zero, List.set_cons_succ]
          refine x_var (by exact rfl) ?_
          refine x_dget (k := Sum.inr _) S 1 (by exact rfl) vl_drw_rest ?_
          refine x_I0 ?_
          refine ⟨_, rfl, ?_⟩
          refine ited (fun c3 => ?_) (fun c3 => ?_)
          · try dsimp only [tSeq, tAsg, gName, tOp, tUn, tCB, tCons, tNil, tCall, tMethK1, tCallK1, tPar3, tRet, tRetN, tDrop, tTest, tB, tC, tNext, tAugS, tAug, sFld1, sFldAug1, tMeth1, tMake, tMakeK1, tSl, tPart, tNoPart, sDPut1, tDPop, tBM, tBM0, tPar, gSub, tChain, tNot, tNotV, tDG1, tDG2, tDNewT1, iKeys1, iEnum1, iList1, iTup1, iRng1, iRng2, List.set_cons_zero, List.set_cons_succ]
            refine x_var (by exact rfl) ?_
            refine x_dget (k := Sum.inr _) S 1 (by exact rfl) vl_drw_rest ?_
            refine x_var (by exact rfl) ?_
            refine x_I (by first | decide | (show (0 : Int) < _; omega)) ?_
            try dsimp only [tSeq, tAsg, gName, tOp, tUn, tCB, tCons, tNil, tCall, tMethK1, tCallK1, tPar3, tRet, tRetN, tDrop, tTest, tB, tC, tNext, tAugS, tAug, sFld1, sFldAug1, tMeth1, tMake, tMakeK1, tSl, tPart, tNoPart, sDPut1, tDPop, tBM, tBM0, tPar, gSub, tChain, tNot, tNotV, tDG1, tDG2, tDNewT1, iKeys1, iEnum1, iList1, iTup1, iRng1, iRng2, List.set_cons_zero, List.set_cons_succ]
            refine x_var (by exact rfl) ?_
            refine x_dget (k := Sum.inr _) S 1 (by exact rfl) vl_drw_rest ?_
            refine x_var (by exact rfl) ?_
            refine x_I (by first | exact ⟨by decide, by decide⟩ | exact div_ok (by omega) (by omega)) ?_
            refine x_var (by exact rfl) ?_
            refine x_dputR (k := Sum.inr _) S 1 (by exact rfl) pk_drw_rest ln_drw (fun H S => ?_)
            simp only [List.set_cons_zero, List.set_cons_succ] at S
            try dsimp only [tSeq, tAsg, gName, tOp, tUn, tCB, tCons, tNil, tCall, tMethK1, tCallK1, tPar3, tRet, tRetN, tDrop, tTest, tB, tC, tNext, tAugS, tAug, sFld1, sFldAug1, tMeth1, tMake, tMakeK1, tSl, tPart, tNoPart, sDPut1, tDPop, tBM, tBM0, tPar, gSub, tChain, tNot, tNotV, tDG1, tDG2, tDNewT1, iKeys1, iEnum1, iList1, iTup1, iRng1, iRng2, List.set_cons_zero, List.set_cons_succ]
            refine x_var (by exact rfl) ?_
            exact k _ _ _ _ _ _ (Int.emod_nonneg _ (by omega)) (Int.emod_lt_of_pos _ (by omega)) ⟨Int.ediv_nonneg (by omega) (by omega), hd.t0, hd.m0, hd.m1, hd.gp, hd.gl⟩ (S.get 1 rfl) (S.get 2 rfl) S.out2
          · try dsimp only [tSeq, tAsg, gName, tOp, tUn, tCB, tCons, tNil, tCall, tMethK1, tCallK1, tPar3, tRet, tRetN, tDrop, tTest, tB, tC, tNext, tAugS, tAug, sFld1, sFldAug1, tMeth1, tMake, tMakeK1, tSl, tPart, tNoPart, sDPut1, tDPop, tBM, tBM0, tPar, gSub, tChain, tNot, tNotV, tDG1, tDG2, tDNewT1, iKeys1, iEnum1, iList1, iTup1, iRng1, iRng2, List.set_cons_zero, List.set_cons_succ]
            try dsimp only [tSeq, tAsg, gName, tOp, tUn, tCB, tCons, tNil, tCall, tMethK1, tCallK1, tPar3, tRet, tRetN, tDrop, tTest, tB, tC, tNext, tAugS, tAug, sFld1, sFldAug1, tMeth1, tMake, tMakeK1, tSl, tPart, tNoPart, sDPut1, tDPop, tBM, tBM0, tPar, gSub, tChain, tNot, tNotV, tDG1, tDG2, tDNewT1, iKeys1, iEnum1, iList1, iTup1, iRng1, iRng2, List.set_cons_zero, List.set_cons_succ]
            refine x_if ?_
            try dsimp only [tSeq, tAsg, gName, tOp, tUn, tCB, tCons, tNil, tCall, tMethK1, tCallK1, tPar3, tRet, tRetN, tDrop, tTest, tB, tC, tNext, tAugS, tAug, sFld1, sFldAug1, tMeth1, tMake, tMakeK1, tSl, tPart, tNoPart, sDPut1, tDPop, tBM, tBM0, tPar, gSub, tChain, tNot, tNotV, tDG1, tDG2, tDNewT1, iKeys1, iEnum1, iList1, iTup1, iRng1, iRng2, List.set_cons_zero, List.set_cons_succ]
            refine x_var (by exact rfl) ?_
            refine x_dget (k := Sum.inr _) S 1 (by exact rfl) vl_drw_cells ?_
            refine x_lst S (by exact Nat.le_of_ble_eq_true rfl) (fun L2 H S => ?_)
            refine x_neL (ys := []) S 4 0 (by exact rfl) (by exact rfl) ?_
            refine ⟨_, rfl, ?_⟩
            refine itend (fun c4 => ?_) (fun c4 => ?_)
            · try dsimp only [tSeq, tAsg, gName, tOp, tUn, tCB, tCons, tNil, tCall, tMethK1, tCallK1, tPar3, tRet, tRetN, tDrop, tTest, tB, tC, tNext, tAugS, tAug, sFld1, sFldAug1, tMeth1, tMake, tMakeK1, tSl, tPart, tNoPart, sDPut1, tDPop, tBM, tBM0, tPar, gSub, tChain, tNot, tNotV, tDG1, tDG2, tDNewT1, iKeys1, iEnum1, iList1, iTup1, iRng1, iRng2, List.set_cons_zero, List.set_cons_succ]
              have hcl : 0 < cs.length := List.length_pos_iff.mpr (by assumption)
              refine x_var (by exact rfl) ?_
              refine x_dget (k := Sum.inr _) S 2 (by exact rfl) vl_drw_cells ?_
              refine x_var (by exact rfl) ?_
              refine x_dget (k := Sum.inr _) S 2 (by exact rfl) vl_drw_turn ?_
              refine x_var (by exact rfl) ?_
              refine x_dget (k := Sum.inr _) S 2 (by exact rfl) vl_drw_cells ?_
              refine x_lenI S 4 (by exact rfl) ?_
              refine x_I (by first | decide | (show (0 : Int) < _; omega)) ?_
              refine x_ixI S 4 (by exact rfl) (by first | omega | exact Int.emod_nonneg _ (by omega)) (by first | omega | exact Int.emod_lt_of_pos _ (by omega)) (fun v1 hv1 => ?_)
              try dsimp only [tSeq, tAsg, gName, tOp, tUn, tCB, tCons, tNil, tCall, tMethK1, tCallK1, tPar3, tRet, tRetN, tDrop, tTest, tB, tC, tNext, tAugS, tAug, sFld1, sFldAug1, tMeth1, tMake, tMakeK1, tSl, tPart, tNoPart, sDPut1, tDPop, tBM, tBM0, tPar, gSub, tChain, tNot, tNotV, tDG1, tDG2, tDNewT1, iKeys1, iEnum1, iList1, iTup1, iRng1, iRng2, List.set_cons_zero, List.set_cons_succ]
              refine x_var (by exact rfl) ?_
              refine x_dget (k := Sum.inr _) S 2 (by exact rfl) vl_drw_turn ?_
              refine x_I0 ?_
              refine x_var (by exact rfl) ?_
              refine x_dputR (k := Sum.inr _) S 2 (by exact rfl) pk_drw_turn ln_drw (fun H S => ?_)
              simp only [List.set_cons_zero, List.set_cons_succ] at S
              try dsimp only [tSeq, tAsg, gName, tOp, tUn, tCB, tCons, tNil, tCall, tMethK1, tCallK1, tPar3, tRet, tRetN, tDrop, tTest, tB, tC, tNext, tAugS, tAug, sFld1, sFldAug1, tMeth1, tMake, tMakeK1, tSl, tPart, tNoPart, sDPut1, tDPop, tBM, tBM0, tPar, gSub, tChain, tNot, tNotV, tDG1, tDG2, tDNewT1, iKeys1, iEnum1, iList1, iTup1, iRng1, iRng2, List.set_cons_zero, List.set_cons_succ]
              refine x_var (by exact rfl) ?_
              refine x_dget (k := Sum.inr _) S 2 (by exact rfl) vl_drw_more ?_
              refine x_I (by first | exact .inr ⟨by decide, by decide⟩ | exact .inl ⟨by decide, by decide⟩ | exact .inr ⟨by omega, by omega⟩ | exact .inl ⟨by omega, by omega⟩) ?_
              refine x_var (by exact rfl) ?_
              refine x_I0 ?_
              refine x_var (by exact rfl) ?_
              refine x_dget (k := Sum.inr _) S 2 (by exact rfl) vl_drw_turn ?_
              refine x_I (by first | exact .inr ⟨by decide, by decide⟩ | exact .inl ⟨by decide, by decide⟩ | exact .inr ⟨by omega, by omega⟩ | exact .inl ⟨by omega, by omega⟩) ?_
              refine x_I0 ?_
              refine x_I (by first | decide | (show (0 : Int) < _; omega)) ?_
              refine x_var (by exact rfl) ?_
              refine x_dputR (k := Sum.inr _) S 2 (by exact rfl) pk_drw_more ln_drw (fun H S => ?_)
              simp only [List.set_cons_zero, List.set_cons_succ] at S
              try dsimp only [tSeq, tAsg, gName, tOp, tUn, tCB, tCons, tNil, tCall, tMethK1, tCallK1, tPar3, tRet, tRetN, tDrop, tTest, tB, tC, tNext, tAugS, tAug, sFld1, sFldAug1, tMeth1, tMake, tMakeK1, tSl, tPart, tNoPart, sDPut1, tDPop, tBM, tBM0, tPar, gSub, tChain, tNot, tNotV, tDG1, tDG2, tDNewT1, iKeys1, iEnum1, iList1, iTup1, iRng1, iRng2, List.set_cons_zero, List.set_cons_succ]
              refine x_var (by exact rfl) ?_
              refine x_dget (k := Sum.inr _) S 2 (by exact rfl) vl_drw_more ?_
              refine x_var (by exact rfl) ?_
              refine x_dget (k := Sum.inr _) S 2 (by exact rfl) vl_drw_more ?_
              refine x_I (by first | exact .inr ⟨by decide, by decide⟩ | exact .inl ⟨by decide, by decide⟩ | exact .inr ⟨by omega, by omega⟩ | exact .inl ⟨by omega, by omega⟩) ?_
              refine x_var (by exact rfl) ?_
              refine x_dget (k := Sum.inr _) S 2 (by exact rfl) vl_drw_more ?_
              refine x_I (by first | exact .inr ⟨by decide, by decide⟩ | exact .inl ⟨by decide, by decide⟩ | exact .inr ⟨by omega, by omega⟩ | exact .inl ⟨by omega, by omega⟩) ?_
              refine x_I0 ?_
              refine x_I0 ?_
              refine x_I (by first | decide | (show (0 : Int) < _; omega)) ?_
              try dsimp only [tSeq, tAsg, gName, tOp, tUn, tCB, tCons, tNil, tCall, tMethK1, tCallK1, tPar3, tRet, tRetN, tDrop, tTest, tB, tC, tNext, tAugS, tAug, sFld1, sFldAug1, tMeth1, tMake, tMakeK1, tSl, tPart, tNoPart, sDPut1, tDPop, tBM, tBM0, tPar, gSub, tChain, tNot, tNotV, tDG1, tDG2, tDNewT1, iKeys1, iEnum1, iList1, iTup1, iRng1, iRng2, List.set_cons_zero, List.set_cons_succ]
              refine x_var (by exact rfl) ?_
              refine x_var (by exact rfl) ?_
              refine x_I (by first | exact .inr ⟨by decide, by decide⟩ | exact .inl ⟨by decide, by decide⟩ | exact .inr ⟨by omega, by omega⟩ | exact .inl ⟨by omega, by omega⟩) ?_
              refine x_I (by first | decide | (show (0 : Int) < _; omega)) ?_
              refine x_I (by first | exact ⟨by decide, by decide⟩ | exact div_ok (by omega) (by omega)) ?_
              refine x_var (by exact rfl) ?_
              refine x_I (by first | decide | (show (0 : Int) < _; omega)) ?_
              exact k _ _ _ _ _ _ (Int.emod_nonneg _ (by omega)) (Int.emod_lt_of_pos _ (by omega)) ⟨by omega, by omega, Int.emod_nonneg _ (by decide), Int.emod_lt_of_pos _ (by decide), hd.gp, hd.gl⟩ (S.get 2 rfl) (S.get 3 rfl) S.out2
            · try dsimp only [tSeq, tAsg, gName, tOp, tUn, tCB, tCons, tNil, tCall, tMethK1, tCallK1, tPar3, tRet, tRetN, tDrop, tTest, tB, tC, tNext, tAugS, tAug, sFld1, sFldAug1, tMeth1, tMake, tMakeK1, tSl, tPart, tNoPart, sDPut1, tDPop, tBM, tBM0, tPar, gSub, tChain, tNot, tNotV, tDG1, tDG2, tDNewT1, iKeys1, iEnum1, iList1, iTup1, iRng1, iRng2, List.set_cons_zero, List.set_cons_succ]
              refine x_var (by exact rfl) ?_
              refine x_dget (k := Sum.inr _) S 2 (by exact rfl) vl_drw_turn ?_
              refine x_I0 ?_
              refine x_var (by exact rfl) ?_
              refine x_dputR (k := Sum.inr _) S 2 (by exact rfl) pk_drw_turn ln_drw (fun H S => ?_)
              simp only [List.set_cons_zero, List.set_cons_succ] at S
              try dsimp only [tSeq, tAsg, gName, tOp, tUn, tCB, tCons, tNil, tCall, tMethK1, tCallK1, tPar3, tRet, tRetN, tDrop, tTest, tB, tC, tNext, tAugS, tAug, sFld1, sFldAug1, tMeth1, tMake, tMakeK1, tSl, tPart, tNoPart, sDPut1, tDPop, tBM, tBM0, tPar, gSub, tChain, tNot, tNotV, tDG1, tDG2, tDNewT1, iKeys1, iEnum1, iList1, iTup1, iRng1, iRng2, List.set_cons_zero, List.set_cons_succ]
              refine x_var (by exact rfl) ?_
              refine x_dget (k := Sum.inr _) S 2 (by exact rfl) vl_drw_more ?_
              refine x_I (by first | exact .inr ⟨by decide, by decide⟩ | exact .inl ⟨by decide, by decide⟩ | exact .inr ⟨by omega, by omega⟩ | exact .inl ⟨by omega, by omega⟩) ?_
              refine x_var (by exact rfl) ?_
              refine x_I0 ?_
              refine x_var (by exact rfl) ?_
              refine x_dget (k := Sum.inr _) S 2 (by exact rfl) vl_drw_turn ?_
              refine x_I (by first | exact .inr ⟨by decide, by decide⟩ | exact .inl ⟨by decide, by decide⟩ | exact .inr ⟨by omega, by omega⟩ | exact .inl ⟨by omega, by omega⟩) ?_
              refine x_I0 ?_
              refine x_I (by first | decide | (show (0 : Int) < _; omega)) ?_
              refine x_var (by exact rfl) ?_
              refine x_dputR (k := Sum.inr _) S 2 (by exact rfl) pk_drw_more ln_drw (fun H S => ?_)
              simp only [List.set_cons_zero, List.set_cons_succ] at S
              try dsimp only [tSeq, tAsg, gName, tOp, tUn, tCB, tCons, tNil, tCall, tMethK1, tCallK1, tPar3, tRet, tRetN, tDrop, tTest, tB, tC, tNext, tAugS, tAug, sFld1, sFldAug1, tMeth1, tMake, tMakeK1, tSl, tPart, tNoPart, sDPut1, tDPop, tBM, tBM0, tPar, gSub, tChain, tNot, tNotV, tDG1, tDG2, tDNewT1, iKeys1, iEnum1, iList1, iTup1, iRng1, iRng2, List.set_cons_zero, List.set_cons_succ]
              refine x_var (by exact rfl) ?_
              refine x_dget (k := Sum.inr _) S 2 (by exact rfl) vl_drw_more ?_
              refine x_var (by exact rfl) ?_
              refine x_dget (k := Sum.inr _) S 2 (by exact rfl) vl_drw_more ?_
              refine x_I (by first | exact .inr ⟨by decide, by decide⟩ | exact .inl ⟨by decide, by decide⟩ | exact .inr ⟨by omega, by omega⟩ | exact .inl ⟨by omega, by omega⟩) ?_
              refine x_var (by exact rfl) ?_
              refine x_dget (k := Sum.inr _) S 2 (by exact rfl) vl_drw_more ?_
              refine x_I (by first | exact .inr ⟨by decide, by decide⟩ | exact .inl ⟨by decide, by decide⟩ | exact .inr ⟨by omega, by omega⟩ | exact .inl ⟨by omega, by omega⟩) ?_
              refine x_I0 ?_
              refine x_I0 ?_
              refine x_I (by first | decide | (show (0 : Int) < _; omega)) ?_
              try dsimp only [tSeq, tAsg, gName, tOp, tUn, tCB, tCons, tNil, tCall, tMethK1, tCallK1, tPar3, tRet, tRetN, tDrop, tTest, tB, tC, tNext, tAugS, tAug, sFld1, sFldAug1, tMeth1, tMake, tMakeK1, tSl, tPart, tNoPart, sDPut1, tDPop, tBM, tBM0, tPar, gSub, tChain, tNot, tNotV, tDG1, tDG2, tDNewT1, iKeys1, iEnum1, iList1, iTup1, iRng1, iRng2, List.set_cons_zero, List.set_cons_succ]
              refine x_var (by exact rfl) ?_
              refine x_var (by exact rfl) ?_
              refine x_I (by first | exact .inr ⟨by decide, by decide⟩ | exact .inl ⟨by decide, by decide⟩ | exact .inr ⟨by omega, by omega⟩ | exact .inl ⟨by omega, by omega⟩) ?_
              refine x_I (by first | decide | (show (0 : Int) < _; omega)) ?_
              refine x_I (by first | exact ⟨by decide, by decide⟩ | exact div_ok (by omega) (by omega)) ?_
              refine x_var (by exact rfl) ?_
              refine x_I (by first | decide | (show (0 : Int) < _; omega)) ?_
              exact k _ _ _ _ _ _ (Int.emod_nonneg _ (by omega)) (Int.emod_lt_of_pos _ (by omega)) ⟨by omega, by omega, Int.emod_nonneg _ (by decide), Int.emod_lt_of_pos _ (by decide), hd.gp, hd.gl⟩ (S.get 2 rfl) (S.get 3 rfl) S.out2
      · refine iteF ?_
        have hr0 := hd.r0
        have ht0 := hd.t0
        have hm0 := hd.m0
        have hm1 := hd.m1
        try dsimp only [tSeq, tAsg, gName, tOp, tUn, tCB, tCons, tNil, tCall, tMethK1, tCallK1, tPar3, tRet, tRetN, tDrop, tTest, tB, tC, tNext, tAugS, tAug, sFld1, sFldAug1, tMeth1, tMake, tMakeK1, tSl, tPart, tNoPart, sDPut1, tDPop, tBM, tBM0, tPar, gSub, tChain, tNot, tNotV, tDG1, tDG2, tDNewT1, iKeys1, iEnum1, iList1, iTup1, iRng1, iRng2, List.set_cons_zero, List.set_cons_succ]
        try dsimp only [tSeq, tAsg, gName, tOp, tUn, tCB, tCons, tNil, tCall, tMethK1, tCallK1, tPar3, tRet, tRetN, tDrop, tTest, tB, tC, tNext, tAugS, tAug, sFld1, sFldAug1, tMeth1, tMake, tMakeK1, tSl, tPart, tNoPart, sDPut1, tDPop, tBM, tBM0, tPar, gSub, tChain, tNot, tNotV, tDG1, tDG2, tDNewT1, iKeys1, iEnum1, iList1, iTup1, iRng1, iRng2, List.set_cons_zero, List.set_cons_succ]
        refine x_if ?_
        try dsimp only [tSeq, tAsg, gName, tOp, tUn, tCB, tCons, tNil, tCall, tMethK1, tCallK1, tPar3, tRet, tRetN, tDrop, tTest, tB, tC, tNext, tAugS, tAug, sFld1, sFldAug1, tMeth1, tMake, tMakeK1, tSl, tPart, tNoPart, sDPut1, tDPop, tBM, tBM0, tPar, gSub, tChain, tNot, tNotV, tDG1, tDG2, tDNewT1, iKeys1, iEnum1, iList1, iTup1, iRng1, iRng2, List.set_cons_zero, List.set_cons_succ]
        refine x_var (by exact rfl) ?_
        refine x_dget (k := Sum.inr _) S 0 (by exact rfl) vl_drw_rest ?_
        refine x_I0 ?_
        refine ⟨_, rfl, ?_⟩
        refine ited (fun c5 => ?_) (fun c5 => ?_)
        · try dsimp only [tSeq, tAsg, gName, tOp, tUn, tCB, tCons, tNil, tCall, tMethK1, tCallK1, tPar3, tRet, tRetN, tDrop, tTest, tB, tC, tNext, tAugS, tAug, sFld1, sFldAug1, tMeth1, tMake, tMakeK1, tSl, tPart, tNoPart, sDPut1, tDPop, tBM, tBM0, tPar, gSub, tChain, tNot, tNotV, tDG1, tDG2, tDNewT1, iKeys1, iEnum1, iList1, iTup1, iRng1, iRng2, List.set_cons_zero, List.set_cons_succ]
          refine x_var (by exact rfl) ?_
          refine x_dget (k := Sum.inr _) S 0 (by exact rfl) vl_drw_rest ?_
          refine x_var (by exact rfl) ?_
          refine x_I (by first | decide | (show (0 : Int) < _; omega)) ?_
          try dsimp only [tSeq, tAsg, gName, tOp, tUn, tCB, tCons, tNil, tCall, tMethK1, tCallK1, tPar3, tRet, tRetN, tDrop, tTest, tB, tC, tNext, tAugS, tAug, sFld1, sFldAug1, tMeth1, tMake, tMakeK1, tSl, tPart, tNoPart, sDPut1, tDPop, tBM, tBM0, tPar, gSub, tChain, tNot, tNotV, tDG1, tDG2, tDNewT1, iKeys1, iEnum1, iList1, iTup1, iRng1, iRng2, List.set_cons_zero, List.set_cons_succ]
          refine x_var (by exact rfl) ?_
          refine x_dget (k := Sum.inr _) S 0 (by exact rfl) vl_drw_rest ?_
          refine x_var (by exact rfl) ?_
          refine x_I (by first | exact ⟨by decide, by decide⟩ | exact div_ok (by omega) (by omega)) ?_
          refine x_var (by exact rfl) ?_
          refine x_dputR (k := Sum.inr _) S 0 (by exact rfl) pk_drw_rest ln_drw (fun H S => ?_)
          simp only [List.set_cons_zero, List.set_cons_succ] at S
          try dsimp only [tSeq, tAsg, gName, tOp, tUn, tCB, tCons, tNil, tCall, tMethK1, tCallK1, tPar3, tRet, tRetN, tDrop, tTest, tB, tC, tNext, tAugS, tAug, sFld1, sFldAug1, tMeth1, tMake, tMakeK1, tSl, tPart, tNoPart, sDPut1, tDPop, tBM, tBM0, tPar, gSub, tChain, tNot, tNotV, tDG1, tDG2, tDNewT1, iKeys1, iEnum1, iList1, iTup1, iRng1, iRng2, List.set_cons_zero, List.set_cons_succ]
          refine x_var (by exact rfl) ?_
          exact k _ _ _ _ _ _ (Int.emod_nonneg _ (by omega)) (Int.emod_lt_of_pos _ (by omega)) ⟨Int.ediv_nonneg (by omega) (by omega), hd.t0, hd.m0, hd.m1, hd.gp, hd.gl⟩ (S.get 0 rfl) (S.get 1 rfl) S.out2
        · try dsimp only [tSeq, tAsg, gName, tOp, tUn, tCB, tCons, tNil, tCall, tMethK1, tCallK1, tPar3, tRet, tRetN, tDrop, tTest, tB, tC, tNext, tAugS, tAug, sFld1, sFldAug1, tMeth1, tMake, tMakeK1, tSl, tPart, tNoPart, sDPut1, tDPop, tBM, tBM0, tPar, gSub, tChain, tNot, tNotV, tDG1, tDG2, tDNewT1, iKeys1, iEnum1, iList1, iTup1, iRng1, iRng2, List.set_cons_zero, List.set_cons_succ]
          try dsimp only [tSeq, tAsg, gName, tOp, tUn, tCB, tCons, tNil, tCall, tMethK1, tCallK1, tPar3, tRet, tRetN, tDrop, tTest, tB, tC, tNext, tAugS, tAug, sFld1, sFldAug1, tMeth1, tMake, tMakeK1, tSl, tPart, tNoPart, sDPut1, tDPop, tBM, tBM0, tPar, gSub, tChain, tNot, tNotV, tDG1, tDG2, tDNewT1, iKeys1, iEnum1, iList1, iTup1, iRng1, iRng2, List.set_cons_zero, List.set_cons_succ]
          refine x_if ?_
          try dsimp only [tSeq, tAsg, gName, tOp, tUn, tCB, tCons, tNil, tCall, tMethK1, tCallK1, tPar3, tRet, tRetN, tDrop, tTest, tB, tC, tNext, tAugS, tAug, sFld1, sFldAug1, tMeth1, tMake, tMakeK1, tSl, tPart, tNoPart, sDPut1, tDPop, tBM, tBM0, tPar, gSub, tChain, tNot, tNotV, tDG1, tDG2, tDNewT1, iKeys1, iEnum1, iList1, iTup1, iRng1, iRng2, List.set_cons_zero, List.set_cons_succ]
          refine x_var (by exact rfl) ?_
          refine x_dget (k := Sum.inr _) S 0 (by exact rfl) vl_drw_cells ?_
          refine x_lst S (by exact Nat.le_of_ble_eq_true rfl) (fun L3 H S => ?_)
          refine x_neL (ys := []) S 3 0 (by exact rfl) (by exact rfl) ?_
          refine ⟨_, rfl, ?_⟩
          refine itend (fun c6 => ?_) (fun c6 => ?_)
          · try dsimp only [tSeq, tAsg, gName, tOp, tUn, tCB, tCons, tNil, tCall, tMethK1, tCallK1, tPar3, tRet, tRetN, tDrop, tTest, tB, tC, tNext, tAugS, tAug, sFld1, sFldAug1, tMeth1, tMake, tMakeK1, tSl, tPart, tNoPart, sDPut1, tDPop, tBM, tBM0, tPar, gSub, tChain, tNot, tNotV, tDG1, tDG2, tDNewT1, iKeys1, iEnum1, iList1, iTup1, iRng1, iRng2, List.set_cons_zero, List.set_cons_succ]
            have hcl : 0 < cs.length := List.length_pos_iff.mpr (by assumption)
            refine x_var (by exact rfl) ?_
            refine x_dget (k := Sum.inr _) S 1 (by exact rfl) vl_drw_cells ?_
            refine x_var (by exact rfl) ?_
            refine x_dget (k := Sum.inr _) S 1 (by exact rfl) vl_drw_turn ?_
            refine x_var (by exact rfl) ?_
            refine x_dget (k := Sum.inr _) S 1 (by exact rfl) vl_drw_cells ?_
            refine x_lenI S 3 (by exact rfl) ?_
            refine x_I (by first | decide | (show (0 : Int) < _; omega)) ?_
            refine x_ixI S 3 (by exact rfl) (by first | omega | exact Int.emod_nonneg _ (by omega)) (by first | omega | exact Int.emod_lt_of_pos _ (by omega)) (fun v2 hv2 => ?_)
            try dsimp only [tSeq, tAsg, gName, tOp, tUn, tCB, tCons, tNil, tCall, tMethK1, tCallK1, tPar3, tRet, tRetN, tDrop, tTest, tB, tC, tNext, tAugS, tAug, sFld1, sFldAug1, tMeth1, tMake, tMakeK1, tSl, tPart, tNoPart, sDPut1, tDPop, tBM, tBM0, tPar, gSub, tChain, tNot, tNotV, tDG1, tDG2, tDNewT1, iKeys1, iEnum1, iList1, iTup1, iRng1, iRng2, List.set_cons_zero, List.set_cons_succ]
            refine x_var (by exact rfl) ?_
            refine x_dget (k := Sum.inr _) S 1 (by exact rfl) vl_drw_turn ?_
            refine x_I0 ?_
            refine x_var (by exact rfl) ?_
            refine x_dputR (k := Sum.inr _) S 1 (by exact rfl) pk_drw_turn ln_drw (fun H S => ?_)
            simp only [List.set_cons_zero, List.set_cons_succ] at S
            try dsimp only [tSeq, tAsg, gName, tOp, tUn, tCB, tCons, tNil, tCall, tMethK1, tCallK1, tPar3, tRet, tRetN, tDrop, tTest, tB, tC, tNext, tAugS, tAug, sFld1, sFldAug1, tMeth1, tMake, tMakeK1, tSl, tPart, tNoPart, sDPut1, tDPop, tBM, tBM0, tPar, gSub, tChain, tNot, tNotV, tDG1, tDG2, tDNewT1, iKeys1, iEnum1, iList1, iTup1, iRng1, iRng2, List.set_cons_zero, List.set_cons_succ]
            refine x_var (by exact rfl) ?_
            refine x_dget (k := Sum.inr _) S 1 (by exact rfl) vl_drw_more ?_
            refine x_I (by first | exact .inr ⟨by decide, by decide⟩ | exact .inl ⟨by decide, by decide⟩ | exact .inr ⟨by omega, by omega⟩ | exact .inl ⟨by omega, by omega⟩) ?_
            refine x_var (by exact rfl) ?_
            refine x_I0 ?_
            refine x_var (by exact rfl) ?_
            refine x_dget (k := Sum.inr _) S 1 (by exact rfl) vl_drw_turn ?_
            refine x_I (by first | exact .inr ⟨by decide, by decide⟩ | exact .inl ⟨by decide, by decide⟩ | exact .inr ⟨by omega, by omega⟩ | exact .inl ⟨by omega, by omega⟩) ?_
            refine x_I0 ?_
            refine x_I (by first | decide | (show (0 : Int) < _; omega)) ?_
            refine x_var (by exact rfl) ?_
            refine x_dputR (k := Sum.inr _) S 1 (by exact rfl) pk_drw_more ln_drw (fun H S => ?_)
            simp only [List.set_cons_zero, List.set_cons_succ] at S
            try dsimp only [tSeq, tAsg, gName, tOp, tUn, tCB, tCons, tNil, tCall, tMethK1, tCallK1, tPar3, tRet, tRetN, tDrop, tTest, tB, tC, tNext, tAugS, tAug, sFld1, sFldAug1, tMeth1, tMake, tMakeK1, tSl, tPart, tNoPart, sDPut1, tDPop, tBM, tBM0, tPar, gSub, tChain, tNot, tNotV, tDG1, tDG2, tDNewT1, iKeys1, iEnum1, iList1, iTup1, iRng1, iRng2, List.set_cons_zero, List.set_cons_succ]
            refine x_var (by exact rfl) ?_
            refine x_dget (k := Sum.inr _) S 1 (by exact rfl) vl_drw_more ?_
            refine x_var (by exact rfl) ?_
            refine x_dget (k := Sum.inr _) S 1 (by exact rfl) vl_drw_more ?_
            refine x_I (by first | exact .inr ⟨by decide, by decide⟩ | exact .inl ⟨by decide, by decide⟩ | exact .inr ⟨by omega, by omega⟩ | exact .inl ⟨by omega, by omega⟩) ?_
            refine x_var (by exact rfl) ?_
            refine x_dget (k := Sum.inr _) S 1 (by exact rfl) vl_drw_more ?_
            refine x_I (by first | exact .inr ⟨by decide, by decide⟩ | exact .inl ⟨by decide, by decide⟩ | exact .inr ⟨by omega, by omega⟩ | exact .inl ⟨by omega, by omega⟩) ?_
            refine x_I0 ?_
            refine x_I0 ?_
            refine x_I (by first | decide | (show (0 : Int) < _; omega)) ?_
            try dsimp only [tSeq, tAsg, gName, tOp, tUn, tCB, tCons, tNil, tCall, tMethK1, tCallK1, tPar3, tRet, tRetN, tDrop, tTest, tB, tC, tNext, tAugS, tAug, sFld1, sFldAug1, tMeth1, tMake, tMakeK1, tSl, tPart, tNoPart, sDPut1, tDPop, tBM, tBM0, tPar, gSub, tChain, tNot, tNotV, tDG1, tDG2, tDNewT1, iKeys1, iEnum1, iList1, iTup1, iRng1, iRng2, List.set_cons_zero, List.set_cons_succ]
            refine x_var (by exact rfl) ?_
            refine x_var (by exact rfl) ?_
            refine x_I (by first | exact .inr ⟨by decide, by decide⟩ | exact .inl ⟨by decide, by decide⟩ | exact .inr ⟨by omega, by omega⟩ | exact .inl ⟨by omega, by omega⟩) ?_
            refine x_I (by first | decide | (show (0 : Int) < _; omega)) ?_
            refine x_I (by first | exact ⟨by decide, by decide⟩ | exact div_ok (by omega) (by omega)) ?_
            refine x_var (by exact rfl) ?_
            refine x_I (by first | decide | (show (0 : Int) < _; omega)) ?_
            exact k _ _ _ _ _ _ (Int.emod_nonneg _ (by omega)) (Int.emod_lt_of_pos _ (by omega)) ⟨by omega, by omega, Int.emod_nonneg _ (by decide), Int.emod_lt_of_pos _ (by decide), hd.gp, hd.gl⟩ (S.get 1 rfl) (S.get 2 rfl) S.out2
          · try dsimp only [tSeq, tAsg, gName, tOp, tUn, tCB, tCons, tNil, tCall, tMethK1, tCallK1, tPar3, tRet, tRetN, tDrop, tTest, tB, tC, tNext, tAugS, tAug, sFld1, sFldAug1, tMeth1, tMake, tMakeK1, tSl, tPart, tNoPart, sDPut1, tDPop, tBM, tBM0, tPar, gSub, tChain, tNot, tNotV, tDG1, tDG2, tDNewT1, iKeys1, iEnum1, iList1, iTup1, iRng1, iRng2, List.set_cons_zero, List.set_cons_succ]
            refine x_var (by exact rfl) ?_
            refine x_dget (k := Sum.inr _) S 1 (by exact rfl) vl_drw_turn ?_
            refine x_I0 ?_
            refine x_var (by exact rfl) ?_
            refine x_dputR (k := Sum.inr _) S 1 (by exact rfl) pk_drw_turn ln_drw (fun H S => ?_)
            simp only [List.set_cons_zero, List.set_cons_succ] at S
            try dsimp only [tSeq, tAsg, gName, tOp, tUn, tCB, tCons, tNil, tCall, tMethK1, tCallK1, tPar3, tRet, tRetN, tDrop, tTest, tB, tC, tNext, tAugS, tAug, sFld1, sFldAug1, tMeth1, tMake, tMakeK1, tSl, tPart, tNoPart, sDPut1, tDPop, tBM, tBM0, tPar, gSub, tChain, tNot, tNotV, tDG1, tDG2, tDNewT1, iKeys1, iEnum1, iList1, iTup1, iRng1, iRng2, List.set_cons_zero, List.set_cons_succ]
            refine x_var (by exact rfl) ?_
            refine x_dget (k := Sum.inr _) S 1 (by exact rfl) vl_drw_more ?_
            refine x_I (by first | exact .inr ⟨by decide, by decide⟩ | exact .inl ⟨by decide, by decide⟩ | exact .inr ⟨by omega, by omega⟩ | exact .inl ⟨by omega, by omega⟩) ?_
            refine x_var (by exact rfl) ?_
            refine x_I0 ?_
            refine x_var (by exact rfl) ?_
            refine x_dget (k := Sum.inr _) S 1 (by exact rfl) vl_drw_turn ?_
            refine x_I (by first | exact .inr ⟨by decide, by decide⟩ | exact .inl ⟨by decide, by decide⟩ | exact .inr ⟨by omega, by omega⟩ | exact .inl ⟨by omega, by omega⟩) ?_
            refine x_I0 ?_
            refine x_I (by first | decide | (show (0 : Int) < _; omega)) ?_
            refine x_var (by exact rfl) ?_
            refine x_dputR (k := Sum.inr _) S 1 (by exact rfl) pk_drw_more ln_drw (fun H S => ?_)
            simp only [List.set_cons_zero, List.set_cons_succ] at S
            try dsimp only [tSeq, tAsg, gName, tOp, tUn, tCB, tCons, tNil, tCall, tMethK1, tCallK1, tPar3, tRet, tRetN, tDrop, tTest, tB, tC, tNext, tAugS, tAug, sFld1, sFldAug1, tMeth1, tMake, tMakeK1, tSl, tPart, tNoPart, sDPut1, tDPop, tBM, tBM0, tPar, gSub, tChain, tNot, tNotV, tDG1, tDG2, tDNewT1, iKeys1, iEnum1, iList1, iTup1, iRng1, iRng2, List.set_cons_zero, List.set_cons_succ]
            refine x_var (by exact rfl) ?_
            refine x_dget (k := Sum.inr _) S 1 (by exact rfl) vl_drw_more ?_
            refine x_var (by exact rfl) ?_
            refine x_dget (k := Sum.inr _) S 1 (by exact rfl) vl_drw_more ?_
            refine x_I (by first | exact .inr ⟨by decide, by decide⟩ | exact .inl ⟨by decide, by decide⟩ | exact .inr ⟨by omega, by omega⟩ | exact .inl ⟨by omega, by omega⟩) ?_
            refine x_var (by exact rfl) ?_
            refine x_dget (k := Sum.inr _) S 1 (by exact rfl) vl_drw_more ?_
            refine x_I (by first | exact .inr ⟨by decide, by decide⟩ | exact .inl ⟨by decide, by decide⟩ | exact .inr ⟨by omega, by omega⟩ | exact .inl ⟨by omega, by omega⟩) ?_
            refine x_I0 ?_
            refine x_I0 ?_
            refine x_I (by first | decide | (show (0 : Int) < _; omega)) ?_
            try dsimp only [tSeq, tAsg, gName, tOp, tUn, tCB, tCons, tNil, tCall, tMethK1, tCallK1, tPar3, tRet, tRetN, tDrop, tTest, tB, tC, tNext, tAugS, tAug, sFld1, sFldAug1, tMeth1, tMake, tMakeK1, tSl, tPart, tNoPart, sDPut1, tDPop, tBM, tBM0, tPar, gSub, tChain, tNot, tNotV, tDG1, tDG2, tDNewT1, iKeys1, iEnum1, iList1, iTup1, iRng1, iRng2, List.set_cons_zero, List.set_cons_succ]
            refine x_var (by exact rfl) ?_
            refine x_var (by exact rfl) ?_
            refine x_I (by first | exact .inr ⟨by decide, by decide⟩ | exact .inl ⟨by decide, by decide⟩ | exact .inr ⟨by omega, by omega⟩ | exact .inl ⟨by omega, by omega⟩) ?_
            refine x_I (by first | decide | (show (0 : Int) < _; omega)) ?_
            refine x_I (by first | exact ⟨by decide, by decide⟩ | exact div_ok (by omega) (by omega)) ?_
            refine x_var (by exact rfl) ?_
            refine x_I (by first | decide | (show (0 : Int) < _; omega)) ?_
            exact k _ _ _ _ _ _ (Int.emod_nonneg _ (by omega)) (Int.emod_lt_of_pos _ (by omega)) ⟨by omega, by omega, Int.emod_nonneg _ (by decide), Int.emod_lt_of_pos _ (by decide), hd.gp, hd.gl⟩ (S.get 1 rfl) (S.get 2 rfl) S.out2
end
end G

set_option linter.all false
set_option maxRecDepth 100000
set_option maxHeartbeats 4000000
namespace G
open PySem PySem.Spec PyProof.Rows L2

theorem Sep.sqt {K : PySem.W.Frag} {H0 H : Hp} {ft : List Addr} {l : List Cell} {a : Addr} {xs : List V} (S : Sep H0 ft H l) (h : SqT K H0 a xs) (ha : a ∉ ft) : SqT K H a xs := by
  rcases h with (h | ⟨o, h⟩) | h
  · exact .inl (.inl (S.fr _ _ h ha))
  · exact .inl (.inr ⟨o, S.fr _ _ h ha⟩)
  · exact .inr h
theorem at_of {α : Type} {xs : List α} {i : Int} (h0 : 0 ≤ i) (h : i < xs.length) : ∃ c, c ∈ xs ∧ atI xs i = some c := by
  have hl : i.toNat < xs.length := by omega
  refine ⟨xs[i.toNat], List.getElem_mem hl, ?_⟩
  unfold atI
  rw [ixN_in h0 h]
  exact List.getElem?_eq_getElem hl
/-- what is picked of: a list, a tuple, a text; P of each of its things -/
def SomeV (K : PySem.W.Frag) (H : Hp) (dp dg : Addr) (x : V) (P : V → Prop) : Prop :=
  (∃ s xs, x = .ref s ∧ SqL K H s xs ∧ s ∉ [dp, dg] ∧ 0 < xs.length ∧ xs.length < 10 ^ 9 ∧ ∀ v ∈ xs, P v) ∨ (∃ s xs, x = .ref s ∧ SqT K H s xs ∧ s ∉ [dp, dg] ∧ 0 < xs.length ∧ xs.length < 10 ^ 9 ∧ ∀ v ∈ xs, P v) ∨
  ∃ z : Str, x = .str z ∧ 0 < z.length ∧ z.length < 10000 ∧ ∀ c ∈ z.cps.toList, P (.str ⟨#[c]⟩)
def spPick (K : PySem.W.Frag) : Sp := fun vs H Q _ => ∃ (dp dg dc : Addr) (dr dt dm : Int) (gs cs : List Int) (x : V) (P : V → Prop), vs = [.ref dp, x] ∧ Sep H [dp, dg] H [(1, dp, .dK (R_drw dg dc dr dt dm)), (1, dg, .lst (gs.map V.int)), (0, dc, .lst (cs.map V.int))] ∧ Drw dr dt dm gs ∧ SomeV K H dp dg x P ∧
  ∀ (v : V) (dr' dt' dm' : Int) (gs' : List Int) (H' : Hp), P v → Drw dr' dt' dm' gs' → H' dp = some (.dK (R_drw dg dc dr' dt' dm')) → H' dg = some (.lst (gs'.map V.int)) → (∀ b o, H b = some o → b ≠ dp → b ≠ dg → H' b = some o) → Q v H'
theorem c_pick {K : PySem.W.Frag} {H0 H : Hp} {ft : List Addr} {l : List Cell} {t1 t2 t3 : Nat} {dp dg dc : Addr} {dr dt dm : Int} {gs cs : List Int} {x : V} {Q : VK} {E : XK} (P : V → Prop) (S : Sep H0 ft H l) (i j k : Nat) (hi : l[i]? = some (t1, dp, .dK (R_drw dg dc dr dt dm))) (hj : l[j]? = some (t2, dg, .lst (gs.map V.int))) (hk : l[k]? = some (t3, dc, .lst (cs.map V.int)))
    (h : Drw dr dt dm gs) (hx : SomeV K H dp dg x P) (q : ∀ (v : V) (dr dt dm : Int) (gs : List Int) (H' : Hp), P v → Drw dr dt dm gs → Sep H0 ft H' ((l.set i (t1, dp, .dK (R_drw dg dc dr dt dm))).set j (t2, dg, .lst (gs.map V.int))) → Q v H')
    (hn : [i, j, k].Nodup := by decide) (ht1 : t1 = 1 ∨ t1 = 2 := by first | exact .inl rfl | exact .inr rfl) (ht2 : t2 = 1 ∨ t2 = 2 := by first | exact .inl rfl | exact .inr rfl) : spPick K [.ref dp, x] H Q E :=
  ⟨dp, dg, dc, dr, dt, dm, gs, cs, x, P, rfl, by
    have g3 := S.give3 i j k hi hj hk hn
    exact (g3.retag rfl (by simp) (by simp) (by simp)), h, hx, fun v dr' dt' dm' gs' H' hp hd e1 e2 F => q v dr' dt' dm' gs' H' hp hd (S.chg2 i j hi hj (fun z => by subst z; simp at hn) F e1 e2 ht1 ht2)⟩
theorem SomeV.lst {K : PySem.W.Frag} {H0 H : Hp} {ft : List Addr} {l : List Cell} {t t1 t2 : Nat} {s dp dg : Addr} {o1 o2 : HO} {xs : List V} {P : V → Prop} (S : Sep H0 ft H l) (n i j : Nat) (h : l[n]? = some (t, s, .lst xs)) (hi : l[i]? = some (t1, dp, o1)) (hj : l[j]? = some (t2, dg, o2)) (h0 : 0 < xs.length) (h1 : xs.length < 10 ^ 9) (hp : ∀ v ∈ xs, P v)
    (d1 : n ≠ i := by decide) (d2 : n ≠ j := by decide) : SomeV K H dp dg (.ref s) P := .inl ⟨s, xs, rfl, S.sl n h, by simp [S.ne n i h hi d1, S.ne n j h hj d2], h0, h1, hp⟩
theorem SomeV.tup {K : PySem.W.Frag} {H0 H : Hp} {ft : List Addr} {l : List Cell} {t t1 t2 : Nat} {s dp dg : Addr} {o1 o2 : HO} {xs : List V} {P : V → Prop} (S : Sep H0 ft H l) (n i j : Nat) (h : l[n]? = some (t, s, .tup xs)) (hi : l[i]? = some (t1, dp, o1)) (hj : l[j]? = some (t2, dg, o2)) (h0 : 0 < xs.length) (h1 : xs.length < 10 ^ 9) (hp : ∀ v ∈ xs, P v)
    (d1 : n ≠ i := by decide) (d2 : n ≠ j := by decide) : SomeV K H dp dg (.ref s) P := .inr (.inl ⟨s, xs, rfl, S.st n h, by simp [S.ne n i h hi d1, S.ne n j h hj d2], h0, h1, hp⟩)
def rLenV (K : PySem.W.Frag) : List V → Hp → VK → Prop := fun xs H Q => ∃ x n, xs = [x] ∧ LenV K x H n ∧ Q (.int n) H
theorem cl_lenV {X : Cx} (K : PySem.W.Frag) (h : X.K = K := by rfl) : CallR X (.builtin "len") (rLenV K) := by subst h; exact call_len
theorem ix_seqK {X : Cx} (K : PySem.W.Frag) (h : X.K = K := by rfl) : IxR X (rIx K) := by subst h; exact ix_seq
theorem line10 {n : Nat} (h : n < 10000) : n ≤ sizeLine := Nat.le_of_lt (Nat.lt_of_lt_of_le h (by decide))
section
variable {P : Program} {w : World} {K : PySem.W.Frag} {mg : Str → Option Value} {base : Heap}
abbrev s_law_pick : Stmt := (topS 5)
theorem sc_law_pick : FnScope ["_law_draw", "_law_some"] ["_law_draw", "_law_some"] (defScope s_law_pick) := ⟨rfl, rfl, rfl, by decide +kernel, rfl, by decide +kernel, by decide +kernel⟩
theorem ok_law_pick {f : Addr} {fd : FuncData} (F : L2.Fun K "_law_pick" "_law_pick" s_law_pick f fd) (ctake : Cal P w K mg base CX0 1 "_law_take" spLTake) (z_len : mg "len" = none) : FnOk P w K mg base CX0 2 f fd ["_law_draw", "_law_some"] (spPick K) := by
  refine F.ok sc_law_pick (fun vs H Q E h => ?_) (fun cdv A outer s H0 vs Q E hr h => ?_)
  · obtain ⟨dp, dg, dc, dr, dt, dm, gs, cs, x, P0, rfl, S, hd, hx, k⟩ := h
    rfl
  · obtain ⟨dp, dg, dc, dr, dt, dm, gs, cs, x, P0, rfl, S, hd, hx, k⟩ := h
    have hu := hu_of hr

    refine ⟨_, pss_one (ps_ret (pe_ix (ix_seqK K) (pv 1) (pe_c ctake hr (by decide) (by rfl) pass0 (pa_cons (pv 0) (pa_cons (pe_callB (cl_lenV K) (by rfl) z_len PySem.boot_len (pa_cons (pv 1) pa_nil)) pa_nil))) (fun _ _ => rfl))), ?_⟩
    rw [show start ["_law_draw", "_law_some"] [V.ref dp, x] = [some (V.ref dp), some (x)] from rfl]
    rcases hx with ⟨s, xs, rfl, hs, hns, h0, h1, hp⟩ | ⟨s, xs, rfl, hs, hns, h0, h1, hp⟩ | ⟨z, rfl, h0, h1, hp⟩
    · try dsimp only [tSeq, tAsg, gName, tOp, tUn, tCB, tCons, tNil, tCall, tMethK1, tCallK1, tPar3, tRet, tRetN, tDrop, tTest, tB, tC, tNext, tAugS, tAug, sFld1, sFldAug1, tMeth1, tMake, tMakeK1, tSl, tPart, tNoPart, sDPut1, tDPop, tBM, tBM0, tPar, gSub, tChain, tNot, tNotV, tDG1, tDG2, tDNewT1, iKeys1, iEnum1, iList1, iTup1, iRng1, iRng2, List.set_cons_zero, List.set_cons_succ]
      refine x_var (by exact rfl) ?_
      refine x_var (by exact rfl) ?_
      refine x_var (by exact rfl) ?_
      refine ⟨_, _, rfl, .inl ⟨_, S.sq hs hns, rfl⟩, ?_⟩
      refine c_ltake S 0 1 2 (by exact rfl) (by exact rfl) (by exact rfl) hd (by omega) (by omega) (fun v1 dr dt dm gs H v1a v1b hd S => ?_)
      simp only [List.set_cons_zero, List.set_cons_succ] at S
      obtain ⟨c, hc, ha⟩ := at_of (xs := xs) v1a v1b
      refine .inl ⟨_, _, _, _, rfl, rfl, S.sq hs hns, ha, ?_⟩
      exact k _ _ _ _ _ _ (hp _ hc) hd (S.get 0 rfl) (S.get 1 rfl) S.out2
    · try dsimp only [tSeq, tAsg, gName, tOp, tUn, tCB, tCons, tNil, tCall, tMethK1, tCallK1, tPar3, tRet, tRetN, tDrop, tTest, tB, tC, tNext, tAugS, tAug, sFld1, sFldAug1, tMeth1, tMake, tMakeK1, tSl, tPart, tNoPart, sDPut1, tDPop, tBM, tBM0, tPar, gSub, tChain, tNot, tNotV, tDG1, tDG2, tDNewT1, iKeys1, iEnum1, iList1, iTup1, iRng1, iRng2, List.set_cons_zero, List.set_cons_succ]
      refine x_var (by exact rfl) ?_
      refine x_var (by exact rfl) ?_
      refine x_var (by exact rfl) ?_
      refine ⟨_, _, rfl, .inr ⟨_, S.sqt hs hns, rfl⟩, ?_⟩
      refine c_ltake S 0 1 2 (by exact rfl) (by exact rfl) (by exact rfl) hd (by omega) (by omega) (fun v1 dr dt dm gs H v1a v1b hd S => ?_)
      simp only [List.set_cons_zero, List.set_cons_succ] at S
      obtain ⟨c, hc, ha⟩ := at_of (xs := xs) v1a v1b
      refine .inr (.inl ⟨_, _, _, _, rfl, rfl, S.sqt hs hns, ha, ?_⟩)
      exact k _ _ _ _ _ _ (hp _ hc) hd (S.get 0 rfl) (S.get 1 rfl) S.out2
    · try dsimp only [tSeq, tAsg, gName, tOp, tUn, tCB, tCons, tNil, tCall, tMethK1, tCallK1, tPar3, tRet, tRetN, tDrop, tTest, tB, tC, tNext, tAugS, tAug, sFld1, sFldAug1, tMeth1, tMake, tMakeK1, tSl, tPart, tNoPart, sDPut1, tDPop, tBM, tBM0, tPar, gSub, tChain, tNot, tNotV, tDG1, tDG2, tDNewT1, iKeys1, iEnum1, iList1, iTup1, iRng1, iRng2, List.set_cons_zero, List.set_cons_succ]
      refine x_var (by exact rfl) ?_
      refine x_var (by exact rfl) ?_
      refine x_var (by exact rfl) ?_
      refine ⟨_, _, rfl, ⟨line10 h1, rfl⟩, ?_⟩
      refine c_ltake S 0 1 2 (by exact rfl) (by exact rfl) (by exact rfl) hd (by omega) (by omega) (fun v1 dr dt dm gs H v1a v1b hd S => ?_)
      simp only [List.set_cons_zero, List.set_cons_succ] at S
      obtain ⟨c, hc, ha⟩ := at_of (xs := z.cps.toList) v1a (by rw [Array.length_toList]; exact v1b)
      refine .inr (.inr ⟨z, _, c, rfl, rfl, line10 h1, ha, ?_⟩)
      exact k _ _ _ _ _ _ (hp _ hc) hd (S.get 0 rfl) (S.get 1 rfl) S.out2
end

def spBegun (K : PySem.W.Frag) : Sp := fun vs H Q _ => ∃ (a : Addr) (ns : List Int), vs = [.ref a] ∧ SqL K H a (ns.map V.int) ∧ ns.length ≤ 1000 ∧ ∀ (dp dg dc : Addr) (gs cs : List Int) (H' : Hp), Drw 0 0 7 gs → Sep H [] H' [(2, dp, .dK (R_drw dg dc 0 0 7)), (2, dg, .lst (gs.map V.int)), (2, dc, .lst (cs.map V.int))] → Q (.ref dp) H'
section
variable {P : Program} {w : World} {K : PySem.W.Frag} {mg : Str → Option Value} {base : Heap}
abbrev s_law_begun : Stmt := (topS 3)
theorem sc_law_begun : FnScope ["_law_script", "_law_cells", "_law_cell"] ["_law_script"] (defScope s_law_begun) := ⟨rfl, rfl, rfl, by decide +kernel, rfl, by decide +kernel, by decide +kernel⟩
theorem ok_law_begun {f : Addr} {fd : FuncData} (F : L2.Fun K "_law_begun" "_law_begun" s_law_begun f fd) (z_abs : mg "abs" = none) : FnOk P w K mg base CX0 1 f fd ["_law_script"] (spBegun K) := by
  refine F.ok sc_law_begun (fun vs H Q E h => ?_) (fun cdv A outer s H0 vs Q E hr h => ?_)
  · obtain ⟨a, ns, rfl, hs, hl, k⟩ := h
    rfl
  · obtain ⟨a, ns, rfl, hs, hl, k⟩ := h
    have hu := hu_of hr
    have S := Sep.of0 (H := H0)
    refine ⟨_, pss_cons (ps_setLc (i := 1) (own := [("_law_cell", 2)]) (g := gName 2) rfl sc_law_begun.nd rfl rfl (sw_true rfl rfl rfl (by decide +kernel)) (pi_listK K (pv 0)) (blkOk_by (N := ["_law_script", "_law_cells", "_law_cell"]) (sc := defScope s_law_begun) (by decide +kernel)) (fun _ _ _ _ _ => pg_name (i := 2) sc_law_begun.nd rfl (.inl rfl)) (fun _ _ _ _ _ => pts_nil) (fun _ _ _ _ _ => pe_callB cl_abs (by rfl) z_abs (by decide +kernel) (pa_cons (pv 2) pa_nil)))
      (pss_one (ps_ret (pe_disp (pps_cons pe_str (pe_lc (own := [("_law_cell", 2)]) (g := gName 2) rfl sc_law_begun.nd (pi_listK K (pv 1)) (blkOk_by (N := ["_law_script", "_law_cells", "_law_cell"]) (sc := defScope s_law_begun) (by decide +kernel)) (fun _ _ _ _ _ => pg_name (i := 2) sc_law_begun.nd rfl (.inl rfl)) (fun _ _ _ _ _ => pts_one (pt_cmpR op_ge (pv 2) (pe_op op_pow (pe_int) (pe_int)) (nomark _))) (fun _ _ _ _ _ => pv 2)) (pps_cons pe_str (pv 1) (pps_cons pe_str (pe_int) (pps_cons pe_str (pe_int) (pps_cons pe_str (pe_int) (pps_nil)))))) rfl rfl (by simp) (by decide)))), ?_⟩
    rw [show start ["_law_script", "_law_cells", "_law_cell"] [V.ref a] = [some (V.ref a), none, none] from rfl]
    try dsimp only [tSeq, tAsg, gName, tOp, tUn, tCB, tCons, tNil, tCall, tMethK1, tCallK1, tPar3, tRet, tRetN, tDrop, tTest, tB, tC, tNext, tAugS, tAug, sFld1, sFldAug1, tMeth1, tMake, tMakeK1, tSl, tPart, tNoPart, sDPut1, tDPop, tBM, tBM0, tPar, gSub, tChain, tNot, tNotV, tDG1, tDG2, tDNewT1, iKeys1, iEnum1, iList1, iTup1, iRng1, iRng2, List.set_cons_zero, List.set_cons_succ]
    refine x_lc ?_
    try dsimp only [tOp, tUn, tCB, tCons, tNil, tCall, tMethK1, tCallK1, tC, tMeth1, tMake, tMakeK1, tSl, tPart, tNoPart, tDPop, tChain, tNotV, tBM, tBM0, tDG1, tDG2, tDNewT1, iKeys1, iEnum1, iList1, iTup1, iRng1, iRng2]
    refine x_var (by exact rfl) ?_
    refine x_ilistS (S.sq hs (by simp)) ?_
    refine lcW (walk_list (xs := ns.map V.int)) S (fun D1 H S => ⟨fun i H1 => ∃ cs : List Int, cs.length = i ∧ Sep H0 [] H1 [(2, D1, .lst (cs.map V.int))], ?_, ?_, ?_, ?_⟩)
    · exact ⟨[], rfl, S⟩
    · rintro i H hi ⟨cs, hcl, S⟩
      exact S.sq hs (by simp)
    · rintro i y H H9 hi ⟨cs, hcl, S⟩ hy
      obtain ⟨rfl, hy⟩ := hy
      obtain ⟨z, hz, rfl⟩ := elem_of hy
      refine ⟨rfl, ?_⟩
      try dsimp only [wipe, tYes, tSeq, tAsg, gName, tOp, tUn, tCB, tCons, tNil, tCall, tMethK1, tCallK1, tPar3, tRet, tRetN, tDrop, tTest, tB, tC, tNext, tAugS, tAug, sFld1, sFldAug1, tMeth1, tMake, tMakeK1, tSl, tPart, tNoPart, sDPut1, tDPop, tBM, tBM0, tPar, gSub, tChain, tNot, tNotV, tDG1, tDG2, tDNewT1, iKeys1, iEnum1, iList1, iTup1, iRng1, iRng2, List.set_cons_zero, List.set_cons_succ]
      refine iteT ?_
      refine x_var (by exact rfl) ?_
      refine x_abs ?_
      refine x_lcappI S 0 (by exact rfl) (by rw [List.length_map] at hi; omega) (fun H S => ?_)
      exact ⟨cs ++ [_], by rw [List.length_append, hcl]; rfl, S⟩
    · rintro H ⟨cs, hcl, S⟩
      try dsimp only [tSeq, tAsg, gName, tOp, tUn, tCB, tCons, tNil, tCall, tMethK1, tCallK1, tPar3, tRet, tRetN, tDrop, tTest, tB, tC, tNext, tAugS, tAug, sFld1, sFldAug1, tMeth1, tMake, tMakeK1, tSl, tPart, tNoPart, sDPut1, tDPop, tBM, tBM0, tPar, gSub, tChain, tNot, tNotV, tDG1, tDG2, tDNewT1, iKeys1, iEnum1, iList1, iTup1, iRng1, iRng2, List.set_cons_zero, List.set_cons_succ]
      rw [List.length_map] at hcl
      try dsimp only [tSeq, tAsg, gName, tOp, tUn, tCB, tCons, tNil, tCall, tMethK1, tCallK1, tPar3, tRet, tRetN, tDrop, tTest, tB, tC, tNext, tAugS, tAug, sFld1, sFldAug1, tMeth1, tMake, tMakeK1, tSl, tPart, tNoPart, sDPut1, tDPop, tBM, tBM0, tPar, gSub, tChain, tNot, tNotV, tDG1, tDG2, tDNewT1, iKeys1, iEnum1, iList1, iTup1, iRng1, iRng2, List.set_cons_zero, List.set_cons_succ]
      refine x_disp S (fun rd1 H S => ?_)
      try dsimp only [tPairs, tC]
      refine x_lc ?_
      try dsimp only [tOp, tUn, tCB, tCons, tNil, tCall, tMethK1, tCallK1, tC, tMeth1, tMake, tMakeK1, tSl, tPart, tNoPart, tDPop, tChain, tNotV, tBM, tBM0, tDG1, tDG2, tDNewT1, iKeys1, iEnum1, iList1, iTup1, iRng1, iRng2]
      refine x_var (by exact rfl) ?_
      refine x_ilist S 1 (by exact rfl) ?_
      refine lcW (walk_list (xs := cs.map V.int)) S (fun D2 H S => ⟨fun i H1 => ∃ gs : List Int, gs.length ≤ i ∧ (∀ g ∈ gs, 0 ≤ g) ∧ Sep H0 [] H1 [(2, D2, .lst (gs.map V.int)), (2, rd1, .dK []), (2, D1, .lst (cs.map V.int))], ?_, ?_, ?_, ?_⟩)
      · exact ⟨[], Nat.le_refl _, (fun _ h => nomatch h), S⟩
      · rintro i H hi ⟨gs, hgl, hgp, S⟩
        exact S.sl 2 rfl
      · rintro i y H H9 hi ⟨gs, hgl, hgp, S⟩ hy
        obtain ⟨rfl, hy⟩ := hy
        obtain ⟨z, hz, rfl⟩ := elem_of hy
        refine ⟨rfl, ?_⟩
        try dsimp only [wipe, tYes, tSeq, tAsg, gName, tOp, tUn, tCB, tCons, tNil, tCall, tMethK1, tCallK1, tPar3, tRet, tRetN, tDrop, tTest, tB, tC, tNext, tAugS, tAug, sFld1, sFldAug1, tMeth1, tMake, tMakeK1, tSl, tPart, tNoPart, sDPut1, tDPop, tBM, tBM0, tPar, gSub, tChain, tNot, tNotV, tDG1, tDG2, tDNewT1, iKeys1, iEnum1, iList1, iTup1, iRng1, iRng2, List.set_cons_zero, List.set_cons_succ]
        refine x_var (by exact rfl) ?_
        refine x_I ⟨by decide, by decide, by first | assumption | omega⟩ ?_
        refine x_I0 ?_
        refine ⟨_, rfl, ?_⟩
        refine ited (fun c1 => ?_) (fun c1 => ?_)
        · refine x_var (by exact rfl) ?_
          refine x_lcappI S 0 (by exact rfl) (by rw [List.length_map] at hi; omega) (fun H S => ?_)
          refine ⟨gs ++ [_], by rw [List.length_append]; show _ + 1 ≤ _; omega, fun g hg => ?_, S⟩
          rcases List.mem_append.mp hg with hg | hg
          · exact hgp g hg
          · rw [List.mem_singleton.mp hg]; exact Int.le_trans (by decide : (0 : Int) ≤ 10 ^ Int.toNat 18) c1
        · exact ⟨gs, by omega, hgp, S⟩
      · rintro H ⟨gs, hgl, hgp, S⟩
        rw [List.length_map] at hgl
        try dsimp only [tPairs, tC]
        refine x_var (by exact rfl) ?_
        try dsimp only [tPairs, tC]
        try dsimp only [tPairs, tC]
        try dsimp only [tPairs, tC]
        refine x_dispE (kvs := R_drw _ _ _ _ _) S 1 (by exact rfl) (by exact (by exact rfl)) (by exact Nat.le_of_ble_eq_true (by exact rfl)) mg_drw (fun H S => ?_)
        simp only [List.set_cons_zero, List.set_cons_succ] at S
        exact k _ _ _ gs cs _ ⟨by decide, by decide, by decide, by decide, hgp, by omega⟩ (S.sub [1, 0, 2])
end
end G

set_option linter.all false
set_option maxRecDepth 100000
set_option maxHeartbeats 4000000
namespace G
open PySem PySem.Spec PyProof.Rows L2

def Names (ss : List Str) : Prop := ss.Nodup ∧ ∀ s ∈ ss, OkN s
def spNames (K : PySem.W.Frag) : Sp := fun vs H Q _ => ∃ (dp dg dc : Addr) (dr dt dm many : Int) (gs cs : List Int), vs = [.ref dp, .int many] ∧ Sep H [dp, dg] H [(1, dp, .dK (R_drw dg dc dr dt dm)), (1, dg, .lst (gs.map V.int)), (0, dc, .lst (cs.map V.int))] ∧ Drw dr dt dm gs ∧ 0 ≤ many ∧ many ≤ 20 ∧
  ∀ (ss : List Str) (nm : Addr) (dr' dt' dm' : Int) (gs' : List Int) (H' : Hp), (ss.length : Int) = many → Names ss → Drw dr' dt' dm' gs' → Sep H [dp, dg] H' [(2, nm, .lst (ss.map V.str)), (1, dp, .dK (R_drw dg dc dr' dt' dm')), (1, dg, .lst (gs'.map V.int))] → Q (.ref nm) H'
def qz : List Str := ["aqzqzqzq", "bqzqzqzq", "cqzqzqzq", "dqzqzqzq", "eqzqzqzq", "fqzqzqzq", "gqzqzqzq", "hqzqzqzq", "iqzqzqzq", "jqzqzqzq", "kqzqzqzq", "lqzqzqzq", "mqzqzqzq", "nqzqzqzq", "oqzqzqzq", "pqzqzqzq", "qqzqzqzq", "rqzqzqzq", "sqzqzqzq", "tqzqzqzq", "uqzqzqzq", "vqzqzqzq", "wqzqzqzq", "xqzqzqzq", "yqzqzqzq", "zqzqzqzq"]
theorem qz_left {ss : List Str} (h : ss.length < 26) : ∃ s r, qz.filter (fun s => !decide (s ∈ ss)) = s :: r := by
  cases e : qz.filter (fun s => !decide (s ∈ ss)) with
  | cons s r => exact ⟨s, r, rfl⟩
  | nil =>
    have hsub : ∀ s ∈ qz, s ∈ ss := fun s hs => by
      by_cases m : s ∈ ss
      · exact m
      · have : s ∈ qz.filter (fun s => !decide (s ∈ ss)) := List.mem_filter.mpr ⟨hs, by rw [decide_eq_false m]; rfl⟩
        rw [e] at this; cases this
    have nd : qz.Nodup := by decide +kernel
    have := List.Nodup.length_le_of_subset nd (fun s hs => hsub s hs)
    have h26 : qz.length = 26 := rfl
    omega
theorem qz_ok : ∀ s ∈ qz, OkN s := by
  intro s hs
  have h1 : ∀ s ∈ qz, s.length = 8 := by decide +kernel
  have h2 : ∀ s ∈ qz, ∀ c ∈ s.cps.toList, 97 ≤ c ∧ c ≤ 122 := by decide +kernel
  have := h1 s hs
  exact ⟨by omega, by omega, h2 s hs⟩
def abc : Str := "abcdefghijklmnopqrstuvwxyz"
theorem abc_low : ∀ c ∈ abc.cps.toList, Low ⟨#[c]⟩ := by
  intro c hc d hd
  have h1 : ∀ c ∈ abc.cps.toList, 97 ≤ c ∧ c ≤ 122 := by decide +kernel
  have : d = c := by simpa using hd
  rw [this]; exact h1 c hc
theorem qz_at {i : Nat} {c : Nat} (h : abc.cps[i]? = some c) : qz[i]? = some ((⟨#[c]⟩ : Str) ++ ("qzqzqzq" : Str)) := by
  have hl : i < 26 := by
    have := (Array.getElem?_eq_some_iff.mp h).1
    exact this
  have all : ∀ i : Fin 26, qz[i.1]? = (abc.cps[i.1]?).map fun c => (⟨#[c]⟩ : Str) ++ ("qzqzqzq" : Str) := by decide +kernel
  have := all ⟨i, hl⟩
  simp only at this
  rw [this, h]; rfl
theorem words_ok : ∀ v ∈ ([.str "clock", .str "past", .str "ask", .str "stop", .str "told", .str "piece", .str "room", .str "in", .str "out", .str "done"] : List V), IsN v := by
  intro v hv
  simp only [List.mem_cons, List.not_mem_nil, or_false] at hv
  rcases hv with rfl | rfl | rfl | rfl | rfl | rfl | rfl | rfl | rfl | rfl <;> exact ⟨_, rfl, by decide +kernel, by decide +kernel, by unfold Low; decide +kernel⟩
section
variable {P : Program} {w : World} {K : PySem.W.Frag} {mg : Str → Option Value} {base : Heap}
abbrev s_law_names : Stmt := (topS 6)
theorem sc_law_names : FnScope ["_law_draw", "_law_many", "_law_letters", "_law_words", "_law_found", "_law_k", "_law_way", "_law_name", "_law_one", "_law_sign", "_law_letter"] ["_law_draw", "_law_many"] (defScope s_law_names) := ⟨rfl, rfl, rfl, by decide +kernel, rfl, by decide +kernel, by decide +kernel⟩
theorem ok_law_names {f : Addr} {fd : FuncData} (F : L2.Fun K "_law_names" "_law_names" s_law_names f fd) (ctake : Cal P w K mg base CX0 1 "_law_take" spLTake) (cpick : Cal P w K mg base CX0 2 "_law_pick" (spPick K)) (z_range : mg "range" = none) : FnOk P w K mg base CX0 3 f fd ["_law_draw", "_law_many"] (spNames K) := by
  refine F.ok sc_law_names (fun vs H Q E h => ?_) (fun cdv A outer s H0 vs Q E hr h => ?_)
  · obtain ⟨dp, dg, dc, dr, dt, dm, many, gs, cs, rfl, S, hd, hm, hm2, k⟩ := h
    rfl
  · obtain ⟨dp, dg, dc, dr, dt, dm, many, gs, cs, rfl, S, hd, hm, hm2, k⟩ := h
    have hu := hu_of hr

    refine ⟨_, pss_cons (ps_set (i := 2) sc_law_names.nd rfl (.inr rfl) (pe_str))
      (pss_cons (ps_set (i := 3) sc_law_names.nd rfl (.inl rfl) (pe_lst1 (pa_cons (pe_str) (pa_cons (pe_str) (pa_cons (pe_str) (pa_cons (pe_str) (pa_cons (pe_str) (pa_cons (pe_str) (pa_cons (pe_str) (pa_cons (pe_str) (pa_cons (pe_str) (pa_cons (pe_str) pa_nil))))))))))))
      (pss_cons (ps_set (i := 4) sc_law_names.nd rfl (.inr rfl) (pe_lst1 pa_nil))
      (pss_cons (ps_for PassesOwn.never rfl (pi_range1 (by rfl) z_range (pa_cons (pv 1) pa_nil)) (pg_name (i := 5) sc_law_names.nd rfl (.inl rfl)) (pss_cons (ps_set (i := 6) sc_law_names.nd rfl (.inl rfl) (pe_c ctake hr (by decide) (by rfl) pass0 (pa_cons (pv 0) (pa_cons (pe_int) pa_nil))))
      (pss_cons (ps_if (pt_cmpR op_eq (pv 6) (pe_int) (nomark _)) (pss_one (ps_set (i := 7) sc_law_names.nd rfl (.inl rfl) (pe_c cpick hr (by decide) (by rfl) pass0 (pa_cons (pv 0) (pa_cons (pv 3) pa_nil))))) (pss_one (ps_if ((pw_and (pt_cmpR op_eq (pv 6) (pe_int) (nomark _)) (pw_and1 (pt_cmpR (op_neDK K hr.units) (pv 4) (pe_lst1 pa_nil) (nomark _)))).pt) (pss_one (ps_set (i := 7) sc_law_names.nd rfl (.inl rfl) (pe_slice sl_str (pe_op op_addS (pe_c cpick hr (by decide) (by rfl) pass0 (pa_cons (pv 0) (pa_cons (pv 4) pa_nil))) (pe_c cpick hr (by decide) (by rfl) pass0 (pa_cons (pv 0) (pa_cons (pv 2) pa_nil)))) po_none (po_some (pe_int))))) (pss_one (ps_set (i := 7) sc_law_names.nd rfl (.inl rfl) (pe_bm PySem.F.plainAttrs_str PySem.F.slot_str_join PySem.F.type_str_join (mt_joinK K) (pe_str) (pa_cons (pe_lc (own := [("_law_sign", 9)]) (g := gName 9) rfl sc_law_names.nd (pi_range1 (by rfl) z_range (pa_cons (pe_op op_add (pe_int) (pe_c ctake hr (by decide) (by rfl) pass0 (pa_cons (pv 0) (pa_cons (pe_int) pa_nil)))) pa_nil)) (blkOk_by (N := ["_law_draw", "_law_many", "_law_letters", "_law_words", "_law_found", "_law_k", "_law_way", "_law_name", "_law_one", "_law_sign", "_law_letter"]) (sc := defScope s_law_names) (by decide +kernel)) (fun _ _ _ _ _ => pg_name (i := 9) sc_law_names.nd rfl (Or.inl rfl)) (fun _ _ _ _ _ => pts_nil) (fun _ _ _ _ _ => pe_c cpick hr (by decide) (by rfl) pass0 (pa_cons (pv 0) (pa_cons (pv 2) pa_nil)))) pa_nil)))))))
      (pss_cons (ps_if (pt_cmpR (op_inK K) (pv 7) (pv 4) rfl) (pss_one (ps_set (i := 7) sc_law_names.nd rfl (.inl rfl) (pe_ix (ix_listK K) (pe_lc (own := [("_law_one", 8)]) (g := gName 8) rfl sc_law_names.nd (pi_listK K (pe_lc (own := [("_law_letter", 10)]) (g := gName 10) rfl sc_law_names.nd (pi_str1 (pv 2)) (blkOk_by (N := ["_law_draw", "_law_many", "_law_letters", "_law_words", "_law_found", "_law_k", "_law_way", "_law_name", "_law_one", "_law_sign", "_law_letter"]) (sc := defScope s_law_names) (by decide +kernel)) (fun _ _ _ _ _ => pg_name (i := 10) sc_law_names.nd rfl (.inl rfl)) (fun _ _ _ _ _ => pts_nil) (fun _ _ _ _ _ => pe_op op_addS (pv 10) (pe_str)))) (blkOk_by (N := ["_law_draw", "_law_many", "_law_letters", "_law_words", "_law_found", "_law_k", "_law_way", "_law_name", "_law_one", "_law_sign", "_law_letter"]) (sc := defScope s_law_names) (by decide +kernel)) (fun _ _ _ _ _ => pg_name (i := 8) sc_law_names.nd rfl (.inl rfl)) (fun _ _ _ _ _ => pts_one (pt_cmpR (op_niK K) (pv 8) (pv 4) rfl)) (fun _ _ _ _ _ => pv 8)) (pe_int) (fun _ _ => rfl)))) (pss_nil))
      (pss_one (ps_expr (pe_bm PySem.F.plainAttrs_list PySem.F.slot_list_append PySem.F.type_list_append mt_append (pv 4) (pa_cons (pv 7) pa_nil))))))))
      (pss_one (ps_ret (pv 4)))))), ?_⟩
    rw [show start ["_law_draw", "_law_many", "_law_letters", "_law_words", "_law_found", "_law_k", "_law_way", "_law_name", "_law_one", "_law_sign", "_law_letter"] [V.ref dp, V.int many] = [some (V.ref dp), some (V.int many), none, none, none, none, none, none, none, none, none] from rfl]
    try dsimp only [tSeq, tAsg, gName, tOp, tUn, tCB, tCons, tNil, tCall, tMethK1, tCallK1, tPar3, tRet, tRetN, tDrop, tTest, tB, tC, tNext, tAugS, tAug, sFld1, sFldAug1, tMeth1, tMake, tMakeK1, tSl, tPart, tNoPart, sDPut1, tDPop, tBM, tBM0, tPar, gSub, tChain, tNot, tNotV, tDG1, tDG2, tDNewT1, iKeys1, iEnum1, iList1, iTup1, iRng1, iRng2, List.set_cons_zero, List.set_cons_succ]
    try dsimp only [tSeq, tAsg, gName, tOp, tUn, tCB, tCons, tNil, tCall, tMethK1, tCallK1, tPar3, tRet, tRetN, tDrop, tTest, tB, tC, tNext, tAugS, tAug, sFld1, sFldAug1, tMeth1, tMake, tMakeK1, tSl, tPart, tNoPart, sDPut1, tDPop, tBM, tBM0, tPar, gSub, tChain, tNot, tNotV, tDG1, tDG2, tDNewT1, iKeys1, iEnum1, iList1, iTup1, iRng1, iRng2, List.set_cons_zero, List.set_cons_succ]
    refine x_lst S (by exact Nat.le_of_ble_eq_true rfl) (fun L1 H S => ?_)
    try dsimp only [tSeq, tAsg, gName, tOp, tUn, tCB, tCons, tNil, tCall, tMethK1, tCallK1, tPar3, tRet, tRetN, tDrop, tTest, tB, tC, tNext, tAugS, tAug, sFld1, sFldAug1, tMeth1, tMake, tMakeK1, tSl, tPart, tNoPart, sDPut1, tDPop, tBM, tBM0, tPar, gSub, tChain, tNot, tNotV, tDG1, tDG2, tDNewT1, iKeys1, iEnum1, iList1, iTup1, iRng1, iRng2, List.set_cons_zero, List.set_cons_succ]
    refine x_lst S (by exact Nat.le_of_ble_eq_true rfl) (fun L2 H S => ?_)
    have S : Sep H0 [dp, dg] H [(2, L2, .lst (([] : List Str).map V.str)), (2, L1, .lst [.str "clock", .str "past", .str "ask", .str "stop", .str "told", .str "piece", .str "room", .str "in", .str "out", .str "done"]), (1, dp, .dK (R_drw dg dc dr dt dm)), (1, dg, .lst (gs.map V.int)), (0, dc, .lst (cs.map V.int))] := S
    try dsimp only [tSeq, tAsg, gName, tOp, tUn, tCB, tCons, tNil, tCall, tMethK1, tCallK1, tPar3, tRet, tRetN, tDrop, tTest, tB, tC, tNext, tAugS, tAug, sFld1, sFldAug1, tMeth1, tMake, tMakeK1, tSl, tPart, tNoPart, sDPut1, tDPop, tBM, tBM0, tPar, gSub, tChain, tNot, tNotV, tDG1, tDG2, tDNewT1, iKeys1, iEnum1, iList1, iTup1, iRng1, iRng2, List.set_cons_zero, List.set_cons_succ]
    refine x_for ?_
    try dsimp only [tOp, tUn, tCB, tCons, tNil, tCall, tMethK1, tCallK1, tC, tMeth1, tMake, tMakeK1, tSl, tPart, tNoPart, tDPop, tChain, tNotV, tBM, tBM0, tDG1, tDG2, tDNewT1, iKeys1, iEnum1, iList1, iTup1, iRng1, iRng2]
    refine x_var (by exact rfl) ?_
    refine ⟨_, rfl, by omega, by omega, ?_⟩
    refine forR (fun i σ H1 => ∃ (ss : List Str) (dr dt dm : Int) (gs : List Int) (q1 q2 q3 : Option V), σ = [some (.ref dp), some (.int many), some (.str abc), some (.ref L1), some (.ref L2), q1, q2, q3, none, none, none] ∧ ss.length = i ∧ Names ss ∧ Drw dr dt dm gs ∧ Sep H0 [dp, dg] H1 [(2, L2, .lst (ss.map V.str)), (2, L1, .lst [.str "clock", .str "past", .str "ask", .str "stop", .str "told", .str "piece", .str "room", .str "in", .str "out", .str "done"]), (1, dp, .dK (R_drw dg dc dr dt dm)), (1, dg, .lst (gs.map V.int)), (0, dc, .lst (cs.map V.int))]) ?_ ?_ ?_
    · exact ⟨[], _, _, _, _, _, _, _, rfl, rfl, ⟨List.nodup_nil, (fun _ h => nomatch h)⟩, hd, S.sub [0, 1, 2, 3, 4]⟩
    · rintro i σ H hi ⟨ss, dr, dt, dm, gs, q1, q2, q3, rfl, hsl, hss, hd, S⟩
      try dsimp only [tSeq, tAsg, gName, tOp, tUn, tCB, tCons, tNil, tCall, tMethK1, tCallK1, tPar3, tRet, tRetN, tDrop, tTest, tB, tC, tNext, tAugS, tAug, sFld1, sFldAug1, tMeth1, tMake, tMakeK1, tSl, tPart, tNoPart, sDPut1, tDPop, tBM, tBM0, tPar, gSub, tChain, tNot, tNotV, tDG1, tDG2, tDNewT1, iKeys1, iEnum1, iList1, iTup1, iRng1, iRng2, List.set_cons_zero, List.set_cons_succ]
      try dsimp only [tSeq, tAsg, gName, tOp, tUn, tCB, tCons, tNil, tCall, tMethK1, tCallK1, tPar3, tRet, tRetN, tDrop, tTest, tB, tC, tNext, tAugS, tAug, sFld1, sFldAug1, tMeth1, tMake, tMakeK1, tSl, tPart, tNoPart, sDPut1, tDPop, tBM, tBM0, tPar, gSub, tChain, tNot, tNotV, tDG1, tDG2, tDNewT1, iKeys1, iEnum1, iList1, iTup1, iRng1, iRng2, List.set_cons_zero, List.set_cons_succ]
      refine x_var (by exact rfl) ?_
      refine c_ltake S 2 3 4 (by exact rfl) (by exact rfl) (by exact rfl) hd (by first | omega | decide | (simp only [len_insAt, List.length_map, List.length_append, List.length_cons, List.length_nil, List.length_take, List.length_drop] at *; omega)) (by first | omega | decide | (simp only [len_insAt, List.length_map, List.length_append, List.length_cons, List.length_nil, List.length_take, List.length_drop] at *; omega)) (fun v1 dr dt dm gs H v1a v1b hd S => ?_)
      simp only [List.set_cons_zero, List.set_cons_succ] at S
      try dsimp only [tSeq, tAsg, gName, tOp, tUn, tCB, tCons, tNil, tCall, tMethK1, tCallK1, tPar3, tRet, tRetN, tDrop, tTest, tB, tC, tNext, tAugS, tAug, sFld1, sFldAug1, tMeth1, tMake, tMakeK1, tSl, tPart, tNoPart, sDPut1, tDPop, tBM, tBM0, tPar, gSub, tChain, tNot, tNotV, tDG1, tDG2, tDNewT1, iKeys1, iEnum1, iList1, iTup1, iRng1, iRng2, List.set_cons_zero, List.set_cons_succ]
      refine x_if ?_
      try dsimp only [tSeq, tAsg, gName, tOp, tUn, tCB, tCons, tNil, tCall, tMethK1, tCallK1, tPar3, tRet, tRetN, tDrop, tTest, tB, tC, tNext, tAugS, tAug, sFld1, sFldAug1, tMeth1, tMake, tMakeK1, tSl, tPart, tNoPart, sDPut1, tDPop, tBM, tBM0, tPar, gSub, tChain, tNot, tNotV, tDG1, tDG2, tDNewT1, iKeys1, iEnum1, iList1, iTup1, iRng1, iRng2, List.set_cons_zero, List.set_cons_succ]
      refine x_var (by exact rfl) ?_
      refine x_eq ?_
      refine ⟨_, rfl, ?_⟩
      refine iteq (fun c1 => ?_) (fun c1 => ?_)
      · try dsimp only [tSeq, tAsg, gName, tOp, tUn, tCB, tCons, tNil, tCall, tMethK1, tCallK1, tPar3, tRet, tRetN, tDrop, tTest, tB, tC, tNext, tAugS, tAug, sFld1, sFldAug1, tMeth1, tMake, tMakeK1, tSl, tPart, tNoPart, sDPut1, tDPop, tBM, tBM0, tPar, gSub, tChain, tNot, tNotV, tDG1, tDG2, tDNewT1, iKeys1, iEnum1, iList1, iTup1, iRng1, iRng2, List.set_cons_zero, List.set_cons_succ]
        refine x_var (by exact rfl) ?_
        refine x_var (by exact rfl) ?_
        refine c_pick (IsN) S 2 3 4 (by exact rfl) (by exact rfl) (by exact rfl) hd (SomeV.lst S 1 2 3 (by exact rfl) (by exact rfl) (by exact rfl) (by decide) (by decide) words_ok) (fun pk1 dr dt dm gs H hpk1 hd S => ?_)
        simp only [List.set_cons_zero, List.set_cons_succ] at S
        obtain ⟨spk1, rfl, okpk1⟩ := hpk1
        have lpk1 := okpk1.l8
        try dsimp only [tSeq, tAsg, gName, tOp, tUn, tCB, tCons, tNil, tCall, tMethK1, tCallK1, tPar3, tRet, tRetN, tDrop, tTest, tB, tC, tNext, tAugS, tAug, sFld1, sFldAug1, tMeth1, tMake, tMakeK1, tSl, tPart, tNoPart, sDPut1, tDPop, tBM, tBM0, tPar, gSub, tChain, tNot, tNotV, tDG1, tDG2, tDNewT1, iKeys1, iEnum1, iList1, iTup1, iRng1, iRng2, List.set_cons_zero, List.set_cons_succ]
        refine x_if ?_
        try dsimp only [tSeq, tAsg, gName, tOp, tUn, tCB, tCons, tNil, tCall, tMethK1, tCallK1, tPar3, tRet, tRetN, tDrop, tTest, tB, tC, tNext, tAugS, tAug, sFld1, sFldAug1, tMeth1, tMake, tMakeK1, tSl, tPart, tNoPart, sDPut1, tDPop, tBM, tBM0, tPar, gSub, tChain, tNot, tNotV, tDG1, tDG2, tDNewT1, iKeys1, iEnum1, iList1, iTup1, iRng1, iRng2, List.set_cons_zero, List.set_cons_succ]
        refine x_var (by exact rfl) ?_
        refine x_var (by exact rfl) ?_
        refine x_inS S 0 (by exact rfl) ?_
        refine ⟨_, rfl, ?_⟩
        refine ited (fun c2 => ?_) (fun c2 => ?_)
        · try dsimp only [tSeq, tAsg, gName, tOp, tUn, tCB, tCons, tNil, tCall, tMethK1, tCallK1, tPar3, tRet, tRetN, tDrop, tTest, tB, tC, tNext, tAugS, tAug, sFld1, sFldAug1, tMeth1, tMake, tMakeK1, tSl, tPart, tNoPart, sDPut1, tDPop, tBM, tBM0, tPar, gSub, tChain, tNot, tNotV, tDG1, tDG2, tDNewT1, iKeys1, iEnum1, iList1, iTup1, iRng1, iRng2, List.set_cons_zero, List.set_cons_succ]
          refine x_lc ?_
          try dsimp only [tOp, tUn, tCB, tCons, tNil, tCall, tMethK1, tCallK1, tC, tMeth1, tMake, tMakeK1, tSl, tPart, tNoPart, tDPop, tChain, tNotV, tBM, tBM0, tDG1, tDG2, tDNewT1, iKeys1, iEnum1, iList1, iTup1, iRng1, iRng2]
          refine x_lc ?_
          try dsimp only [tOp, tUn, tCB, tCons, tNil, tCall, tMethK1, tCallK1, tC, tMeth1, tMake, tMakeK1, tSl, tPart, tNoPart, tDPop, tChain, tNotV, tBM, tBM0, tDG1, tDG2, tDNewT1, iKeys1, iEnum1, iList1, iTup1, iRng1, iRng2]
          refine x_var (by exact rfl) ?_
          refine x_istr ?_
          refine lcW (walk_str (z := abc)) S (fun qa1 H S => ⟨fun j H1 => Sep H0 [dp, dg] H1 [(2, qa1, .lst ((qz.take j).map V.str)), (2, L2, .lst (ss.map V.str)), (2, L1, .lst [.str "clock", .str "past", .str "ask", .str "stop", .str "told", .str "piece", .str "room", .str "in", .str "out", .str "done"]), (1, dp, .dK (R_drw dg dc dr dt dm)), (1, dg, .lst (gs.map V.int)), (0, dc, .lst (cs.map V.int))], ?_, ?_, ?_, ?_⟩)
          · exact S.sub [0, 1, 2, 3, 4, 5]
          · rintro j H hi S
            trivial
          · rintro j y H H9 hi S hy
            obtain ⟨rfl, c, hc, rfl⟩ := hy
            refine ⟨rfl, ?_⟩
            try dsimp only [wipe, tYes, tSeq, tAsg, gName, tOp, tUn, tCB, tCons, tNil, tCall, tMethK1, tCallK1, tPar3, tRet, tRetN, tDrop, tTest, tB, tC, tNext, tAugS, tAug, sFld1, sFldAug1, tMeth1, tMake, tMakeK1, tSl, tPart, tNoPart, sDPut1, tDPop, tBM, tBM0, tPar, gSub, tChain, tNot, tNotV, tDG1, tDG2, tDNewT1, iKeys1, iEnum1, iList1, iTup1, iRng1, iRng2, List.set_cons_zero, List.set_cons_succ]
            refine iteT ?_
            refine x_var (by exact rfl) ?_
            refine x_addS (by first | omega | (simp only [len_app]; omega) | exact Nat.le_of_ble_eq_true (by exact rfl)) ?_
            have hq := qz_at hc
            refine x_lcappS S 0 (by exact rfl) (by rw [List.length_take]; have : qz.length = 26 := rfl; omega) (fun H S => ?_)
            rw [← take_snoc hq] at S
            exact S
          · rintro H S
            rw [show qz.take abc.cps.size = qz from rfl] at S
            refine x_ilist S 0 (by exact rfl) ?_
            refine lcW (walk_list (xs := qz.map V.str)) S (fun ql1 H S => ⟨fun j H1 => Sep H0 [dp, dg] H1 [(2, ql1, .lst (((qz.take j).filter fun s => !decide (s ∈ ss)).map V.str)), (2, qa1, .lst (qz.map V.str)), (2, L2, .lst (ss.map V.str)), (2, L1, .lst [.str "clock", .str "past", .str "ask", .str "stop", .str "told", .str "piece", .str "room", .str "in", .str "out", .str "done"]), (1, dp, .dK (R_drw dg dc dr dt dm)), (1, dg, .lst (gs.map V.int)), (0, dc, .lst (cs.map V.int))], ?_, ?_, ?_, ?_⟩)
            · exact S.sub [0, 1, 2, 3, 4, 5, 6]
            · rintro j H hi S
              exact S.sl 1 rfl
            · rintro j y H H9 hi S hy
              obtain ⟨rfl, hy⟩ := hy
              obtain ⟨z, hz, rfl⟩ := elem_of hy
              refine ⟨rfl, ?_⟩
              try dsimp only [wipe, tYes, tSeq, tAsg, gName, tOp, tUn, tCB, tCons, tNil, tCall, tMethK1, tCallK1, tPar3, tRet, tRetN, tDrop, tTest, tB, tC, tNext, tAugS, tAug, sFld1, sFldAug1, tMeth1, tMake, tMakeK1, tSl, tPart, tNoPart, sDPut1, tDPop, tBM, tBM0, tPar, gSub, tChain, tNot, tNotV, tDG1, tDG2, tDNewT1, iKeys1, iEnum1, iList1, iTup1, iRng1, iRng2, List.set_cons_zero, List.set_cons_succ]
              refine x_var (by exact rfl) ?_
              refine x_var (by exact rfl) ?_
              refine x_niS S 2 (by exact rfl) ?_
              refine ⟨_, rfl, ?_⟩
              refine itend (fun c3 => ?_) (fun c3 => ?_)
              · refine x_var (by exact rfl) ?_
                have hfl := List.length_filter_le (fun s => !decide (s ∈ ss)) (qz.take j)
                refine x_lcappS S 0 (by exact rfl) (by rw [List.length_take] at hfl; have : qz.length = 26 := rfl; omega) (fun H S => ?_)
                rw [take_snoc hz]
                rw [filter_snoc_pos (by rw [decide_eq_false c3]; rfl)] at S
                exact S
              · rw [take_snoc hz, ← filter_snoc_neg (by rw [decide_eq_true c3]; rfl)]
                exact S
            · rintro H S
              rw [List.length_map, List.take_length] at S
              obtain ⟨sq, rq, hsq⟩ := qz_left (ss := ss) (by omega)
              have oksq : OkN sq := qz_ok sq (List.mem_filter.mp (show sq ∈ qz.filter (fun s => !decide (s ∈ ss)) by rw [hsq]; exact List.mem_cons_self)).1
              have nsq : ¬ sq ∈ ss := by have m : sq ∈ qz.filter (fun s => !decide (s ∈ ss)) := by rw [hsq]; exact List.mem_cons_self
                                         simpa using (List.mem_filter.mp m).2
              rw [hsq] at S
              refine x_ixF S 0 (by exact rfl) at0 ?_
              try dsimp only [tSeq, tAsg, gName, tOp, tUn, tCB, tCons, tNil, tCall, tMethK1, tCallK1, tPar3, tRet, tRetN, tDrop, tTest, tB, tC, tNext, tAugS, tAug, sFld1, sFldAug1, tMeth1, tMake, tMakeK1, tSl, tPart, tNoPart, sDPut1, tDPop, tBM, tBM0, tPar, gSub, tChain, tNot, tNotV, tDG1, tDG2, tDNewT1, iKeys1, iEnum1, iList1, iTup1, iRng1, iRng2, List.set_cons_zero, List.set_cons_succ]
              refine x_var (by exact rfl) ?_
              refine ⟨x_ty S 2 (by exact rfl), ?_⟩
              refine x_var (by exact rfl) ?_
              refine x_appS S 2 (by exact rfl) (by omega) (fun H S => ?_)
              simp only [List.set_cons_zero, List.set_cons_succ] at S
              have okn := oksq
              have nin := nsq
              refine ⟨_, _, _, _, _, _, _, _, rfl, by rw [List.length_append, hsl]; rfl, ⟨?_, fun s hs => (List.mem_append.mp hs).elim (hss.2 s) (fun e => by rw [List.mem_singleton.mp e]; exact okn)⟩, hd, S.sub [2, 3, 4, 5, 6]⟩
              exact List.nodup_append.mpr ⟨hss.1, List.nodup_cons.mpr ⟨fun h => (nomatch h), List.nodup_nil⟩, fun a ha b hb e => nin (by rw [List.mem_singleton.mp hb] at e; rw [← e]; exact ha)⟩
        · try dsimp only [tSeq, tAsg, gName, tOp, tUn, tCB, tCons, tNil, tCall, tMethK1, tCallK1, tPar3, tRet, tRetN, tDrop, tTest, tB, tC, tNext, tAugS, tAug, sFld1, sFldAug1, tMeth1, tMake, tMakeK1, tSl, tPart, tNoPart, sDPut1, tDPop, tBM, tBM0, tPar, gSub, tChain, tNot, tNotV, tDG1, tDG2, tDNewT1, iKeys1, iEnum1, iList1, iTup1, iRng1, iRng2, List.set_cons_zero, List.set_cons_succ]
          refine x_var (by exact rfl) ?_
          refine ⟨x_ty S 0 (by exact rfl), ?_⟩
          refine x_var (by exact rfl) ?_
          refine x_appS S 0 (by exact rfl) (by omega) (fun H S => ?_)
          simp only [List.set_cons_zero, List.set_cons_succ] at S
          have nin := c2
          have okn := okpk1
          refine ⟨_, _, _, _, _, _, _, _, rfl, by rw [List.length_append, hsl]; rfl, ⟨?_, fun s hs => (List.mem_append.mp hs).elim (hss.2 s) (fun e => by rw [List.mem_singleton.mp e]; exact okn)⟩, hd, S.sub [0, 1, 2, 3, 4]⟩
          exact List.nodup_append.mpr ⟨hss.1, List.nodup_cons.mpr ⟨fun h => (nomatch h), List.nodup_nil⟩, fun a ha b hb e => nin (by rw [List.mem_singleton.mp hb] at e; rw [← e]; exact ha)⟩
      · try dsimp only [tSeq, tAsg, gName, tOp, tUn, tCB, tCons, tNil, tCall, tMethK1, tCallK1, tPar3, tRet, tRetN, tDrop, tTest, tB, tC, tNext, tAugS, tAug, sFld1, sFldAug1, tMeth1, tMake, tMakeK1, tSl, tPart, tNoPart, sDPut1, tDPop, tBM, tBM0, tPar, gSub, tChain, tNot, tNotV, tDG1, tDG2, tDNewT1, iKeys1, iEnum1, iList1, iTup1, iRng1, iRng2, List.set_cons_zero, List.set_cons_succ]
        refine x_if ?_
        try dsimp only [tSeq, tAsg, gName, tOp, tUn, tCB, tCons, tNil, tCall, tMethK1, tCallK1, tPar3, tRet, tRetN, tDrop, tTest, tB, tC, tNext, tAugS, tAug, sFld1, sFldAug1, tMeth1, tMake, tMakeK1, tSl, tPart, tNoPart, sDPut1, tDPop, tBM, tBM0, tPar, gSub, tChain, tNot, tNotV, tDG1, tDG2, tDNewT1, iKeys1, iEnum1, iList1, iTup1, iRng1, iRng2, List.set_cons_zero, List.set_cons_succ]
        refine x_and ?_
        try dsimp only [tSeq, tAsg, gName, tOp, tUn, tCB, tCons, tNil, tCall, tMethK1, tCallK1, tPar3, tRet, tRetN, tDrop, tTest, tB, tC, tNext, tAugS, tAug, sFld1, sFldAug1, tMeth1, tMake, tMakeK1, tSl, tPart, tNoPart, sDPut1, tDPop, tBM, tBM0, tPar, gSub, tChain, tNot, tNotV, tDG1, tDG2, tDNewT1, iKeys1, iEnum1, iList1, iTup1, iRng1, iRng2, List.set_cons_zero, List.set_cons_succ]
        refine x_var (by exact rfl) ?_
        refine x_eq ?_
        refine ⟨_, rfl, ?_⟩
        refine iteq (fun c4 => ?_) (fun c4 => ?_)
        · refine x_var (by exact rfl) ?_
          refine x_lst S (by exact Nat.le_of_ble_eq_true rfl) (fun L3 H S => ?_)
          refine x_neS (ts := []) S 1 0 (by exact rfl) (by exact rfl) (fun s h => (hss.2 s h).low) (fun _ h => nomatch h) ?_
          refine ⟨_, rfl, ?_⟩
          refine itend (fun c5 => ?_) (fun c5 => ?_)
          · try dsimp only [tSeq, tAsg, gName, tOp, tUn, tCB, tCons, tNil, tCall, tMethK1, tCallK1, tPar3, tRet, tRetN, tDrop, tTest, tB, tC, tNext, tAugS, tAug, sFld1, sFldAug1, tMeth1, tMake, tMakeK1, tSl, tPart, tNoPart, sDPut1, tDPop, tBM, tBM0, tPar, gSub, tChain, tNot, tNotV, tDG1, tDG2, tDNewT1, iKeys1, iEnum1, iList1, iTup1, iRng1, iRng2, List.set_cons_zero, List.set_cons_succ]
            refine x_var (by exact rfl) ?_
            refine x_var (by exact rfl) ?_
            refine c_pick (IsN) S 3 4 5 (by exact rfl) (by exact rfl) (by exact rfl) hd (SomeV.lst S 1 3 4 (by exact rfl) (by exact rfl) (by exact rfl) (by rw [List.length_map]; exact List.length_pos_iff.mpr (by assumption)) (by rw [List.length_map]; omega) (fun v hv => by obtain ⟨s, hs, rfl⟩ := List.mem_map.mp hv; exact ⟨s, rfl, hss.2 s hs⟩)) (fun pk2 dr dt dm gs H hpk2 hd S => ?_)
            simp only [List.set_cons_zero, List.set_cons_succ] at S
            obtain ⟨spk2, rfl, okpk2⟩ := hpk2
            have lpk2 := okpk2.l8
            refine x_var (by exact rfl) ?_
            refine x_var (by exact rfl) ?_
            refine c_pick (fun v => ∃ s : Str, v = .str s ∧ s.length = 1 ∧ Low s) S 3 4 5 (by exact rfl) (by exact rfl) (by exact rfl) hd (.inr (.inr ⟨_, rfl, by decide, by decide, fun c hc => ⟨_, rfl, rfl, abc_low c hc⟩⟩)) (fun pk3 dr dt dm gs H hpk3 hd S => ?_)
            simp only [List.set_cons_zero, List.set_cons_succ] at S
            obtain ⟨spk3, rfl, okpk3⟩ := hpk3
            have lpk3 := okpk3.1
            refine x_addS (by first | omega | (simp only [len_app]; omega) | exact Nat.le_of_ble_eq_true (by exact rfl)) ?_
            refine ⟨_, rfl, ?_⟩
            refine x_slStr (by first | omega | (simp only [len_app]; omega) | exact Nat.le_of_ble_eq_true (by exact rfl)) ?_
            try dsimp only [tSeq, tAsg, gName, tOp, tUn, tCB, tCons, tNil, tCall, tMethK1, tCallK1, tPar3, tRet, tRetN, tDrop, tTest, tB, tC, tNext, tAugS, tAug, sFld1, sFldAug1, tMeth1, tMake, tMakeK1, tSl, tPart, tNoPart, sDPut1, tDPop, tBM, tBM0, tPar, gSub, tChain, tNot, tNotV, tDG1, tDG2, tDNewT1, iKeys1, iEnum1, iList1, iTup1, iRng1, iRng2, List.set_cons_zero, List.set_cons_succ]
            refine x_if ?_
            try dsimp only [tSeq, tAsg, gName, tOp, tUn, tCB, tCons, tNil, tCall, tMethK1, tCallK1, tPar3, tRet, tRetN, tDrop, tTest, tB, tC, tNext, tAugS, tAug, sFld1, sFldAug1, tMeth1, tMake, tMakeK1, tSl, tPart, tNoPart, sDPut1, tDPop, tBM, tBM0, tPar, gSub, tChain, tNot, tNotV, tDG1, tDG2, tDNewT1, iKeys1, iEnum1, iList1, iTup1, iRng1, iRng2, List.set_cons_zero, List.set_cons_succ]
            refine x_var (by exact rfl) ?_
            refine x_var (by exact rfl) ?_
            refine x_inS S 1 (by exact rfl) ?_
            refine ⟨_, rfl, ?_⟩
            refine ited (fun c6 => ?_) (fun c6 => ?_)
            · try dsimp only [tSeq, tAsg, gName, tOp, tUn, tCB, tCons, tNil, tCall, tMethK1, tCallK1, tPar3, tRet, tRetN, tDrop, tTest, tB, tC, tNext, tAugS, tAug, sFld1, sFldAug1, tMeth1, tMake, tMakeK1, tSl, tPart, tNoPart, sDPut1, tDPop, tBM, tBM0, tPar, gSub, tChain, tNot, tNotV, tDG1, tDG2, tDNewT1, iKeys1, iEnum1, iList1, iTup1, iRng1, iRng2, List.set_cons_zero, List.set_cons_succ]
              refine x_lc ?_
              try dsimp only [tOp, tUn, tCB, tCons, tNil, tCall, tMethK1, tCallK1, tC, tMeth1, tMake, tMakeK1, tSl, tPart, tNoPart, tDPop, tChain, tNotV, tBM, tBM0, tDG1, tDG2, tDNewT1, iKeys1, iEnum1, iList1, iTup1, iRng1, iRng2]
              refine x_lc ?_
              try dsimp only [tOp, tUn, tCB, tCons, tNil, tCall, tMethK1, tCallK1, tC, tMeth1, tMake, tMakeK1, tSl, tPart, tNoPart, tDPop, tChain, tNotV, tBM, tBM0, tDG1, tDG2, tDNewT1, iKeys1, iEnum1, iList1, iTup1, iRng1, iRng2]
              refine x_var (by exact rfl) ?_
              refine x_istr ?_
              refine lcW (walk_str (z := abc)) S (fun qa2 H S => ⟨fun j H1 => Sep H0 [dp, dg] H1 [(2, qa2, .lst ((qz.take j).map V.str)), (2, L2, .lst (ss.map V.str)), (2, L1, .lst [.str "clock", .str "past", .str "ask", .str "stop", .str "told", .str "piece", .str "room", .str "in", .str "out", .str "done"]), (1, dp, .dK (R_drw dg dc dr dt dm)), (1, dg, .lst (gs.map V.int)), (0, dc, .lst (cs.map V.int))], ?_, ?_, ?_, ?_⟩)
              · exact S.sub [0, 2, 3, 4, 5, 6]
              · rintro j H hi S
                trivial
              · rintro j y H H9 hi S hy
                obtain ⟨rfl, c, hc, rfl⟩ := hy
                refine ⟨rfl, ?_⟩
                try dsimp only [wipe, tYes, tSeq, tAsg, gName, tOp, tUn, tCB, tCons, tNil, tCall, tMethK1, tCallK1, tPar3, tRet, tRetN, tDrop, tTest, tB, tC, tNext, tAugS, tAug, sFld1, sFldAug1, tMeth1, tMake, tMakeK1, tSl, tPart, tNoPart, sDPut1, tDPop, tBM, tBM0, tPar, gSub, tChain, tNot, tNotV, tDG1, tDG2, tDNewT1, iKeys1, iEnum1, iList1, iTup1, iRng1, iRng2, List.set_cons_zero, List.set_cons_succ]
                refine iteT ?_
                refine x_var (by exact rfl) ?_
                refine x_addS (by first | omega | (simp only [len_app]; omega) | exact Nat.le_of_ble_eq_true (by exact rfl)) ?_
                have hq := qz_at hc
                refine x_lcappS S 0 (by exact rfl) (by rw [List.length_take]; have : qz.length = 26 := rfl; omega) (fun H S => ?_)
                rw [← take_snoc hq] at S
                exact S
              · rintro H S
                rw [show qz.take abc.cps.size = qz from rfl] at S
                refine x_ilist S 0 (by exact rfl) ?_
                refine lcW (walk_list (xs := qz.map V.str)) S (fun ql2 H S => ⟨fun j H1 => Sep H0 [dp, dg] H1 [(2, ql2, .lst (((qz.take j).filter fun s => !decide (s ∈ ss)).map V.str)), (2, qa2, .lst (qz.map V.str)), (2, L2, .lst (ss.map V.str)), (2, L1, .lst [.str "clock", .str "past", .str "ask", .str "stop", .str "told", .str "piece", .str "room", .str "in", .str "out", .str "done"]), (1, dp, .dK (R_drw dg dc dr dt dm)), (1, dg, .lst (gs.map V.int)), (0, dc, .lst (cs.map V.int))], ?_, ?_, ?_, ?_⟩)
                · exact S.sub [0, 1, 2, 3, 4, 5, 6]
                · rintro j H hi S
                  exact S.sl 1 rfl
                · rintro j y H H9 hi S hy
                  obtain ⟨rfl, hy⟩ := hy
                  obtain ⟨z, hz, rfl⟩ := elem_of hy
                  refine ⟨rfl, ?_⟩
                  try dsimp only [wipe, tYes, tSeq, tAsg, gName, tOp, tUn, tCB, tCons, tNil, tCall, tMethK1, tCallK1, tPar3, tRet, tRetN, tDrop, tTest, tB, tC, tNext, tAugS, tAug, sFld1, sFldAug1, tMeth1, tMake, tMakeK1, tSl, tPart, tNoPart, sDPut1, tDPop, tBM, tBM0, tPar, gSub, tChain, tNot, tNotV, tDG1, tDG2, tDNewT1, iKeys1, iEnum1, iList1, iTup1, iRng1, iRng2, List.set_cons_zero, List.set_cons_succ]
                  refine x_var (by exact rfl) ?_
                  refine x_var (by exact rfl) ?_
                  refine x_niS S 2 (by exact rfl) ?_
                  refine ⟨_, rfl, ?_⟩
                  refine itend (fun c7 => ?_) (fun c7 => ?_)
                  · refine x_var (by exact rfl) ?_
                    have hfl := List.length_filter_le (fun s => !decide (s ∈ ss)) (qz.take j)
                    refine x_lcappS S 0 (by exact rfl) (by rw [List.length_take] at hfl; have : qz.length = 26 := rfl; omega) (fun H S => ?_)
                    rw [take_snoc hz]
                    rw [filter_snoc_pos (by rw [decide_eq_false c7]; rfl)] at S
                    exact S
                  · rw [take_snoc hz, ← filter_snoc_neg (by rw [decide_eq_true c7]; rfl)]
                    exact S
                · rintro H S
                  rw [List.length_map, List.take_length] at S
                  obtain ⟨sq, rq, hsq⟩ := qz_left (ss := ss) (by omega)
                  have oksq : OkN sq := qz_ok sq (List.mem_filter.mp (show sq ∈ qz.filter (fun s => !decide (s ∈ ss)) by rw [hsq]; exact List.mem_cons_self)).1
                  have nsq : ¬ sq ∈ ss := by have m : sq ∈ qz.filter (fun s => !decide (s ∈ ss)) := by rw [hsq]; exact List.mem_cons_self
                                             simpa using (List.mem_filter.mp m).2
                  rw [hsq] at S
                  refine x_ixF S 0 (by exact rfl) at0 ?_
                  try dsimp only [tSeq, tAsg, gName, tOp, tUn, tCB, tCons, tNil, tCall, tMethK1, tCallK1, tPar3, tRet, tRetN, tDrop, tTest, tB, tC, tNext, tAugS, tAug, sFld1, sFldAug1, tMeth1, tMake, tMakeK1, tSl, tPart, tNoPart, sDPut1, tDPop, tBM, tBM0, tPar, gSub, tChain, tNot, tNotV, tDG1, tDG2, tDNewT1, iKeys1, iEnum1, iList1, iTup1, iRng1, iRng2, List.set_cons_zero, List.set_cons_succ]
                  refine x_var (by exact rfl) ?_
                  refine ⟨x_ty S 2 (by exact rfl), ?_⟩
                  refine x_var (by exact rfl) ?_
                  refine x_appS S 2 (by exact rfl) (by omega) (fun H S => ?_)
                  simp only [List.set_cons_zero, List.set_cons_succ] at S
                  have okn := oksq
                  have nin := nsq
                  refine ⟨_, _, _, _, _, _, _, _, rfl, by rw [List.length_append, hsl]; rfl, ⟨?_, fun s hs => (List.mem_append.mp hs).elim (hss.2 s) (fun e => by rw [List.mem_singleton.mp e]; exact okn)⟩, hd, S.sub [2, 3, 4, 5, 6]⟩
                  exact List.nodup_append.mpr ⟨hss.1, List.nodup_cons.mpr ⟨fun h => (nomatch h), List.nodup_nil⟩, fun a ha b hb e => nin (by rw [List.mem_singleton.mp hb] at e; rw [← e]; exact ha)⟩
            · try dsimp only [tSeq, tAsg, gName, tOp, tUn, tCB, tCons, tNil, tCall, tMethK1, tCallK1, tPar3, tRet, tRetN, tDrop, tTest, tB, tC, tNext, tAugS, tAug, sFld1, sFldAug1, tMeth1, tMake, tMakeK1, tSl, tPart, tNoPart, sDPut1, tDPop, tBM, tBM0, tPar, gSub, tChain, tNot, tNotV, tDG1, tDG2, tDNewT1, iKeys1, iEnum1, iList1, iTup1, iRng1, iRng2, List.set_cons_zero, List.set_cons_succ]
              refine x_var (by exact rfl) ?_
              refine ⟨x_ty S 1 (by exact rfl), ?_⟩
              refine x_var (by exact rfl) ?_
              refine x_appS S 1 (by exact rfl) (by omega) (fun H S => ?_)
              simp only [List.set_cons_zero, List.set_cons_succ] at S
              have nin := c6
              have okn : OkN (cutS _ none (some 8)) := ⟨by rw [len_cut8, len_app]; have := okpk2.l1; omega, by rw [len_cut8]; omega, (okpk2.low.app okpk3.2).cut⟩
              refine ⟨_, _, _, _, _, _, _, _, rfl, by rw [List.length_append, hsl]; rfl, ⟨?_, fun s hs => (List.mem_append.mp hs).elim (hss.2 s) (fun e => by rw [List.mem_singleton.mp e]; exact okn)⟩, hd, S.sub [1, 2, 3, 4, 5]⟩
              exact List.nodup_append.mpr ⟨hss.1, List.nodup_cons.mpr ⟨fun h => (nomatch h), List.nodup_nil⟩, fun a ha b hb e => nin (by rw [List.mem_singleton.mp hb] at e; rw [← e]; exact ha)⟩
          · try dsimp only [tSeq, tAsg, gName, tOp, tUn, tCB, tCons, tNil, tCall, tMethK1, tCallK1, tPar3, tRet, tRetN, tDrop, tTest, tB, tC, tNext, tAugS, tAug, sFld1, sFldAug1, tMeth1, tMake, tMakeK1, tSl, tPart, tNoPart, sDPut1, tDPop, tBM, tBM0, tPar, gSub, tChain, tNot, tNotV, tDG1, tDG2, tDNewT1, iKeys1, iEnum1, iList1, iTup1, iRng1, iRng2, List.set_cons_zero, List.set_cons_succ]
            refine ⟨rfl, ?_⟩
            refine x_lc ?_
            try dsimp only [tOp, tUn, tCB, tCons, tNil, tCall, tMethK1, tCallK1, tC, tMeth1, tMake, tMakeK1, tSl, tPart, tNoPart, tDPop, tChain, tNotV, tBM, tBM0, tDG1, tDG2, tDNewT1, iKeys1, iEnum1, iList1, iTup1, iRng1, iRng2]
            refine x_var (by exact rfl) ?_
            refine c_ltake S 3 4 5 (by exact rfl) (by exact rfl) (by exact rfl) hd (by first | omega | decide | (simp only [len_insAt, List.length_map, List.length_append, List.length_cons, List.length_nil, List.length_take, List.length_drop] at *; omega)) (by first | omega | decide | (simp only [len_insAt, List.length_map, List.length_append, List.length_cons, List.length_nil, List.length_take, List.length_drop] at *; omega)) (fun v2 dr dt dm gs H v2a v2b hd S => ?_)
            simp only [List.set_cons_zero, List.set_cons_succ] at S
            refine x_I0 ?_
            refine ⟨_, rfl, by omega, by omega, ?_⟩
            refine lcR S (fun yj1 H S => ⟨fun j H1 => ∃ (ys : List Str) (dr dt dm : Int) (gs : List Int), ys.length = j ∧ (∀ s ∈ ys, s.length = 1) ∧ (∀ s ∈ ys, Low s) ∧ Drw dr dt dm gs ∧ Sep H0 [dp, dg] H1 [(2, yj1, .lst (ys.map V.str)), (2, L2, .lst (ss.map V.str)), (2, L1, .lst [.str "clock", .str "past", .str "ask", .str "stop", .str "told", .str "piece", .str "room", .str "in", .str "out", .str "done"]), (1, dp, .dK (R_drw dg dc dr dt dm)), (1, dg, .lst (gs.map V.int)), (0, dc, .lst (cs.map V.int))], ?_, ?_, ?_⟩)
            · exact ⟨[], _, _, _, _, rfl, (fun _ h => nomatch h), (fun _ h => nomatch h), hd, S.sub [0, 2, 3, 4, 5, 6]⟩
            · rintro j H hi ⟨ys, dr, dt, dm, gs, hyl, hy1, hyw, hd, S⟩
              refine ⟨rfl, ?_⟩
              try dsimp only [wipe, tYes, tSeq, tAsg, gName, tOp, tUn, tCB, tCons, tNil, tCall, tMethK1, tCallK1, tPar3, tRet, tRetN, tDrop, tTest, tB, tC, tNext, tAugS, tAug, sFld1, sFldAug1, tMeth1, tMake, tMakeK1, tSl, tPart, tNoPart, sDPut1, tDPop, tBM, tBM0, tPar, gSub, tChain, tNot, tNotV, tDG1, tDG2, tDNewT1, iKeys1, iEnum1, iList1, iTup1, iRng1, iRng2, List.set_cons_zero, List.set_cons_succ]
              refine iteT ?_
              refine x_var (by exact rfl) ?_
              refine x_var (by exact rfl) ?_
              refine c_pick (fun v => ∃ s : Str, v = .str s ∧ s.length = 1 ∧ Low s) S 3 4 5 (by exact rfl) (by exact rfl) (by exact rfl) hd (.inr (.inr ⟨_, rfl, by decide, by decide, fun c hc => ⟨_, rfl, rfl, abc_low c hc⟩⟩)) (fun pk4 dr dt dm gs H hpk4 hd S => ?_)
              simp only [List.set_cons_zero, List.set_cons_succ] at S
              obtain ⟨spk4, rfl, okpk4⟩ := hpk4
              have lpk4 := okpk4.1
              refine x_lcappS S 0 (by exact rfl) (by omega) (fun H S => ?_)
              exact ⟨ys ++ [_], _, _, _, _, by rw [List.length_append, hyl]; rfl, fun s hs => (List.mem_append.mp hs).elim (hy1 s) (fun e => by rw [List.mem_singleton.mp e]; exact okpk4.1), fun s hs => (List.mem_append.mp hs).elim (hyw s) (fun e => by rw [List.mem_singleton.mp e]; exact okpk4.2), hd, S⟩
            · rintro H ⟨ys, dr, dt, dm, gs, hyl, hy1, hyw, hd, S⟩
              have hjl := len_join0 ys
              rw [sum_ones hy1] at hjl
              try dsimp only [tSeq, tAsg, gName, tOp, tUn, tCB, tCons, tNil, tCall, tMethK1, tCallK1, tPar3, tRet, tRetN, tDrop, tTest, tB, tC, tNext, tAugS, tAug, sFld1, sFldAug1, tMeth1, tMake, tMakeK1, tSl, tPart, tNoPart, sDPut1, tDPop, tBM, tBM0, tPar, gSub, tChain, tNot, tNotV, tDG1, tDG2, tDNewT1, iKeys1, iEnum1, iList1, iTup1, iRng1, iRng2, List.set_cons_zero, List.set_cons_succ]
              refine x_joinS S 0 (by exact rfl) (by rw [sum_ones hy1]; show ys.length + ys.length * 0 ≤ _; omega) ?_
              try dsimp only [tSeq, tAsg, gName, tOp, tUn, tCB, tCons, tNil, tCall, tMethK1, tCallK1, tPar3, tRet, tRetN, tDrop, tTest, tB, tC, tNext, tAugS, tAug, sFld1, sFldAug1, tMeth1, tMake, tMakeK1, tSl, tPart, tNoPart, sDPut1, tDPop, tBM, tBM0, tPar, gSub, tChain, tNot, tNotV, tDG1, tDG2, tDNewT1, iKeys1, iEnum1, iList1, iTup1, iRng1, iRng2, List.set_cons_zero, List.set_cons_succ]
              refine x_if ?_
              try dsimp only [tSeq, tAsg, gName, tOp, tUn, tCB, tCons, tNil, tCall, tMethK1, tCallK1, tPar3, tRet, tRetN, tDrop, tTest, tB, tC, tNext, tAugS, tAug, sFld1, sFldAug1, tMeth1, tMake, tMakeK1, tSl, tPart, tNoPart, sDPut1, tDPop, tBM, tBM0, tPar, gSub, tChain, tNot, tNotV, tDG1, tDG2, tDNewT1, iKeys1, iEnum1, iList1, iTup1, iRng1, iRng2, List.set_cons_zero, List.set_cons_succ]
              refine x_var (by exact rfl) ?_
              refine x_var (by exact rfl) ?_
              refine x_inS S 1 (by exact rfl) ?_
              refine ⟨_, rfl, ?_⟩
              refine ited (fun c8 => ?_) (fun c8 => ?_)
              · try dsimp only [tSeq, tAsg, gName, tOp, tUn, tCB, tCons, tNil, tCall, tMethK1, tCallK1, tPar3, tRet, tRetN, tDrop, tTest, tB, tC, tNext, tAugS, tAug, sFld1, sFldAug1, tMeth1, tMake, tMakeK1, tSl, tPart, tNoPart, sDPut1, tDPop, tBM, tBM0, tPar, gSub, tChain, tNot, tNotV, tDG1, tDG2, tDNewT1, iKeys1, iEnum1, iList1, iTup1, iRng1, iRng2, List.set_cons_zero, List.set_cons_succ]
                refine x_lc ?_
                try dsimp only [tOp, tUn, tCB, tCons, tNil, tCall, tMethK1, tCallK1, tC, tMeth1, tMake, tMakeK1, tSl, tPart, tNoPart, tDPop, tChain, tNotV, tBM, tBM0, tDG1, tDG2, tDNewT1, iKeys1, iEnum1, iList1, iTup1, iRng1, iRng2]
                refine x_lc ?_
                try dsimp only [tOp, tUn, tCB, tCons, tNil, tCall, tMethK1, tCallK1, tC, tMeth1, tMake, tMakeK1, tSl, tPart, tNoPart, tDPop, tChain, tNotV, tBM, tBM0, tDG1, tDG2, tDNewT1, iKeys1, iEnum1, iList1, iTup1, iRng1, iRng2]
                refine x_var (by exact rfl) ?_
                refine x_istr ?_
                refine lcW (walk_str (z := abc)) S (fun qa3 H S => ⟨fun j H1 => Sep H0 [dp, dg] H1 [(2, qa3, .lst ((qz.take j).map V.str)), (2, L2, .lst (ss.map V.str)), (2, L1, .lst [.str "clock", .str "past", .str "ask", .str "stop", .str "told", .str "piece", .str "room", .str "in", .str "out", .str "done"]), (1, dp, .dK (R_drw dg dc dr dt dm)), (1, dg, .lst (gs.map V.int)), (0, dc, .lst (cs.map V.int))], ?_, ?_, ?_, ?_⟩)
                · exact S.sub [0, 2, 3, 4, 5, 6]
                · rintro j H hi S
                  trivial
                · rintro j y H H9 hi S hy
                  obtain ⟨rfl, c, hc, rfl⟩ := hy
                  refine ⟨rfl, ?_⟩
                  try dsimp only [wipe, tYes, tSeq, tAsg, gName, tOp, tUn, tCB, tCons, tNil, tCall, tMethK1, tCallK1, tPar3, tRet, tRetN, tDrop, tTest, tB, tC, tNext, tAugS, tAug, sFld1, sFldAug1, tMeth1, tMake, tMakeK1, tSl, tPart, tNoPart, sDPut1, tDPop, tBM, tBM0, tPar, gSub, tChain, tNot, tNotV, tDG1, tDG2, tDNewT1, iKeys1, iEnum1, iList1, iTup1, iRng1, iRng2, List.set_cons_zero, List.set_cons_succ]
                  refine iteT ?_
                  refine x_var (by exact rfl) ?_
                  refine x_addS (by first | omega | (simp only [len_app]; omega) | exact Nat.le_of_ble_eq_true (by exact rfl)) ?_
                  have hq := qz_at hc
                  refine x_lcappS S 0 (by exact rfl) (by rw [List.length_take]; have : qz.length = 26 := rfl; omega) (fun H S => ?_)
                  rw [← take_snoc hq] at S
                  exact S
                · rintro H S
                  rw [show qz.take abc.cps.size = qz from rfl] at S
                  refine x_ilist S 0 (by exact rfl) ?_
                  refine lcW (walk_list (xs := qz.map V.str)) S (fun ql3 H S => ⟨fun j H1 => Sep H0 [dp, dg] H1 [(2, ql3, .lst (((qz.take j).filter fun s => !decide (s ∈ ss)).map V.str)), (2, qa3, .lst (qz.map V.str)), (2, L2, .lst (ss.map V.str)), (2, L1, .lst [.str "clock", .str "past", .str "ask", .str "stop", .str "told", .str "piece", .str "room", .str "in", .str "out", .str "done"]), (1, dp, .dK (R_drw dg dc dr dt dm)), (1, dg, .lst (gs.map V.int)), (0, dc, .lst (cs.map V.int))], ?_, ?_, ?_, ?_⟩)
                  · exact S.sub [0, 1, 2, 3, 4, 5, 6]
                  · rintro j H hi S
                    exact S.sl 1 rfl
                  · rintro j y H H9 hi S hy
                    obtain ⟨rfl, hy⟩ := hy
                    obtain ⟨z, hz, rfl⟩ := elem_of hy
                    refine ⟨rfl, ?_⟩
                    try dsimp only [wipe, tYes, tSeq, tAsg, gName, tOp, tUn, tCB, tCons, tNil, tCall, tMethK1, tCallK1, tPar3, tRet, tRetN, tDrop, tTest, tB, tC, tNext, tAugS, tAug, sFld1, sFldAug1, tMeth1, tMake, tMakeK1, tSl, tPart, tNoPart, sDPut1, tDPop, tBM, tBM0, tPar, gSub, tChain, tNot, tNotV, tDG1, tDG2, tDNewT1, iKeys1, iEnum1, iList1, iTup1, iRng1, iRng2, List.set_cons_zero, List.set_cons_succ]
                    refine x_var (by exact rfl) ?_
                    refine x_var (by exact rfl) ?_
                    refine x_niS S 2 (by exact rfl) ?_
                    refine ⟨_, rfl, ?_⟩
                    refine itend (fun c9 => ?_) (fun c9 => ?_)
                    · refine x_var (by exact rfl) ?_
                      have hfl := List.length_filter_le (fun s => !decide (s ∈ ss)) (qz.take j)
                      refine x_lcappS S 0 (by exact rfl) (by rw [List.length_take] at hfl; have : qz.length = 26 := rfl; omega) (fun H S => ?_)
                      rw [take_snoc hz]
                      rw [filter_snoc_pos (by rw [decide_eq_false c9]; rfl)] at S
                      exact S
                    · rw [take_snoc hz, ← filter_snoc_neg (by rw [decide_eq_true c9]; rfl)]
                      exact S
                  · rintro H S
                    rw [List.length_map, List.take_length] at S
                    obtain ⟨sq, rq, hsq⟩ := qz_left (ss := ss) (by omega)
                    have oksq : OkN sq := qz_ok sq (List.mem_filter.mp (show sq ∈ qz.filter (fun s => !decide (s ∈ ss)) by rw [hsq]; exact List.mem_cons_self)).1
                    have nsq : ¬ sq ∈ ss := by have m : sq ∈ qz.filter (fun s => !decide (s ∈ ss)) := by rw [hsq]; exact List.mem_cons_self
                                               simpa using (List.mem_filter.mp m).2
                    rw [hsq] at S
                    refine x_ixF S 0 (by exact rfl) at0 ?_
                    try dsimp only [tSeq, tAsg, gName, tOp, tUn, tCB, tCons, tNil, tCall, tMethK1, tCallK1, tPar3, tRet, tRetN, tDrop, tTest, tB, tC, tNext, tAugS, tAug, sFld1, sFldAug1, tMeth1, tMake, tMakeK1, tSl, tPart, tNoPart, sDPut1, tDPop, tBM, tBM0, tPar, gSub, tChain, tNot, tNotV, tDG1, tDG2, tDNewT1, iKeys1, iEnum1, iList1, iTup1, iRng1, iRng2, List.set_cons_zero, List.set_cons_succ]
                    refine x_var (by exact rfl) ?_
                    refine ⟨x_ty S 2 (by exact rfl), ?_⟩
                    refine x_var (by exact rfl) ?_
                    refine x_appS S 2 (by exact rfl) (by omega) (fun H S => ?_)
                    simp only [List.set_cons_zero, List.set_cons_succ] at S
                    have okn := oksq
                    have nin := nsq
                    refine ⟨_, _, _, _, _, _, _, _, rfl, by rw [List.length_append, hsl]; rfl, ⟨?_, fun s hs => (List.mem_append.mp hs).elim (hss.2 s) (fun e => by rw [List.mem_singleton.mp e]; exact okn)⟩, hd, S.sub [2, 3, 4, 5, 6]⟩
                    exact List.nodup_append.mpr ⟨hss.1, List.nodup_cons.mpr ⟨fun h => (nomatch h), List.nodup_nil⟩, fun a ha b hb e => nin (by rw [List.mem_singleton.mp hb] at e; rw [← e]; exact ha)⟩
              · try dsimp only [tSeq, tAsg, gName, tOp, tUn, tCB, tCons, tNil, tCall, tMethK1, tCallK1, tPar3, tRet, tRetN, tDrop, tTest, tB, tC, tNext, tAugS, tAug, sFld1, sFldAug1, tMeth1, tMake, tMakeK1, tSl, tPart, tNoPart, sDPut1, tDPop, tBM, tBM0, tPar, gSub, tChain, tNot, tNotV, tDG1, tDG2, tDNewT1, iKeys1, iEnum1, iList1, iTup1, iRng1, iRng2, List.set_cons_zero, List.set_cons_succ]
                refine x_var (by exact rfl) ?_
                refine ⟨x_ty S 1 (by exact rfl), ?_⟩
                refine x_var (by exact rfl) ?_
                refine x_appS S 1 (by exact rfl) (by omega) (fun H S => ?_)
                simp only [List.set_cons_zero, List.set_cons_succ] at S
                have nin := c8
                have okn : OkN (Txt.join "" ys) := ⟨by omega, by omega, Low.join hyw⟩
                refine ⟨_, _, _, _, _, _, _, _, rfl, by rw [List.length_append, hsl]; rfl, ⟨?_, fun s hs => (List.mem_append.mp hs).elim (hss.2 s) (fun e => by rw [List.mem_singleton.mp e]; exact okn)⟩, hd, S.sub [1, 2, 3, 4, 5]⟩
                exact List.nodup_append.mpr ⟨hss.1, List.nodup_cons.mpr ⟨fun h => (nomatch h), List.nodup_nil⟩, fun a ha b hb e => nin (by rw [List.mem_singleton.mp hb] at e; rw [← e]; exact ha)⟩
        · refine iteF ?_
          try dsimp only [tSeq, tAsg, gName, tOp, tUn, tCB, tCons, tNil, tCall, tMethK1, tCallK1, tPar3, tRet, tRetN, tDrop, tTest, tB, tC, tNext, tAugS, tAug, sFld1, sFldAug1, tMeth1, tMake, tMakeK1, tSl, tPart, tNoPart, sDPut1, tDPop, tBM, tBM0, tPar, gSub, tChain, tNot, tNotV, tDG1, tDG2, tDNewT1, iKeys1, iEnum1, iList1, iTup1, iRng1, iRng2, List.set_cons_zero, List.set_cons_succ]
          refine ⟨rfl, ?_⟩
          refine x_lc ?_
          try dsimp only [tOp, tUn, tCB, tCons, tNil, tCall, tMethK1, tCallK1, tC, tMeth1, tMake, tMakeK1, tSl, tPart, tNoPart, tDPop, tChain, tNotV, tBM, tBM0, tDG1, tDG2, tDNewT1, iKeys1, iEnum1, iList1, iTup1, iRng1, iRng2]
          refine x_var (by exact rfl) ?_
          refine c_ltake S 2 3 4 (by exact rfl) (by exact rfl) (by exact rfl) hd (by first | omega | decide | (simp only [len_insAt, List.length_map, List.length_append, List.length_cons, List.length_nil, List.length_take, List.length_drop] at *; omega)) (by first | omega | decide | (simp only [len_insAt, List.length_map, List.length_append, List.length_cons, List.length_nil, List.length_take, List.length_drop] at *; omega)) (fun v3 dr dt dm gs H v3a v3b hd S => ?_)
          simp only [List.set_cons_zero, List.set_cons_succ] at S
          refine x_I0 ?_
          refine ⟨_, rfl, by omega, by omega, ?_⟩
          refine lcR S (fun yj2 H S => ⟨fun j H1 => ∃ (ys : List Str) (dr dt dm : Int) (gs : List Int), ys.length = j ∧ (∀ s ∈ ys, s.length = 1) ∧ (∀ s ∈ ys, Low s) ∧ Drw dr dt dm gs ∧ Sep H0 [dp, dg] H1 [(2, yj2, .lst (ys.map V.str)), (2, L2, .lst (ss.map V.str)), (2, L1, .lst [.str "clock", .str "past", .str "ask", .str "stop", .str "told", .str "piece", .str "room", .str "in", .str "out", .str "done"]), (1, dp, .dK (R_drw dg dc dr dt dm)), (1, dg, .lst (gs.map V.int)), (0, dc, .lst (cs.map V.int))], ?_, ?_, ?_⟩)
          · exact ⟨[], _, _, _, _, rfl, (fun _ h => nomatch h), (fun _ h => nomatch h), hd, S.sub [0, 1, 2, 3, 4, 5]⟩
          · rintro j H hi ⟨ys, dr, dt, dm, gs, hyl, hy1, hyw, hd, S⟩
            refine ⟨rfl, ?_⟩
            try dsimp only [wipe, tYes, tSeq, tAsg, gName, tOp, tUn, tCB, tCons, tNil, tCall, tMethK1, tCallK1, tPar3, tRet, tRetN, tDrop, tTest, tB, tC, tNext, tAugS, tAug, sFld1, sFldAug1, tMeth1, tMake, tMakeK1, tSl, tPart, tNoPart, sDPut1, tDPop, tBM, tBM0, tPar, gSub, tChain, tNot, tNotV, tDG1, tDG2, tDNewT1, iKeys1, iEnum1, iList1, iTup1, iRng1, iRng2, List.set_cons_zero, List.set_cons_succ]
            refine iteT ?_
            refine x_var (by exact rfl) ?_
            refine x_var (by exact rfl) ?_
            refine c_pick (fun v => ∃ s : Str, v = .str s ∧ s.length = 1 ∧ Low s) S 3 4 5 (by exact rfl) (by exact rfl) (by exact rfl) hd (.inr (.inr ⟨_, rfl, by decide, by decide, fun c hc => ⟨_, rfl, rfl, abc_low c hc⟩⟩)) (fun pk5 dr dt dm gs H hpk5 hd S => ?_)
            simp only [List.set_cons_zero, List.set_cons_succ] at S
            obtain ⟨spk5, rfl, okpk5⟩ := hpk5
            have lpk5 := okpk5.1
            refine x_lcappS S 0 (by exact rfl) (by omega) (fun H S => ?_)
            exact ⟨ys ++ [_], _, _, _, _, by rw [List.length_append, hyl]; rfl, fun s hs => (List.mem_append.mp hs).elim (hy1 s) (fun e => by rw [List.mem_singleton.mp e]; exact okpk5.1), fun s hs => (List.mem_append.mp hs).elim (hyw s) (fun e => by rw [List.mem_singleton.mp e]; exact okpk5.2), hd, S⟩
          · rintro H ⟨ys, dr, dt, dm, gs, hyl, hy1, hyw, hd, S⟩
            have hjl := len_join0 ys
            rw [sum_ones hy1] at hjl
            try dsimp only [tSeq, tAsg, gName, tOp, tUn, tCB, tCons, tNil, tCall, tMethK1, tCallK1, tPar3, tRet, tRetN, tDrop, tTest, tB, tC, tNext, tAugS, tAug, sFld1, sFldAug1, tMeth1, tMake, tMakeK1, tSl, tPart, tNoPart, sDPut1, tDPop, tBM, tBM0, tPar, gSub, tChain, tNot, tNotV, tDG1, tDG2, tDNewT1, iKeys1, iEnum1, iList1, iTup1, iRng1, iRng2, List.set_cons_zero, List.set_cons_succ]
            refine x_joinS S 0 (by exact rfl) (by rw [sum_ones hy1]; show ys.length + ys.length * 0 ≤ _; omega) ?_
            try dsimp only [tSeq, tAsg, gName, tOp, tUn, tCB, tCons, tNil, tCall, tMethK1, tCallK1, tPar3, tRet, tRetN, tDrop, tTest, tB, tC, tNext, tAugS, tAug, sFld1, sFldAug1, tMeth1, tMake, tMakeK1, tSl, tPart, tNoPart, sDPut1, tDPop, tBM, tBM0, tPar, gSub, tChain, tNot, tNotV, tDG1, tDG2, tDNewT1, iKeys1, iEnum1, iList1, iTup1, iRng1, iRng2, List.set_cons_zero, List.set_cons_succ]
            refine x_if ?_
            try dsimp only [tSeq, tAsg, gName, tOp, tUn, tCB, tCons, tNil, tCall, tMethK1, tCallK1, tPar3, tRet, tRetN, tDrop, tTest, tB, tC, tNext, tAugS, tAug, sFld1, sFldAug1, tMeth1, tMake, tMakeK1, tSl, tPart, tNoPart, sDPut1, tDPop, tBM, tBM0, tPar, gSub, tChain, tNot, tNotV, tDG1, tDG2, tDNewT1, iKeys1, iEnum1, iList1, iTup1, iRng1, iRng2, List.set_cons_zero, List.set_cons_succ]
            refine x_var (by exact rfl) ?_
            refine x_var (by exact rfl) ?_
            refine x_inS S 1 (by exact rfl) ?_
            refine ⟨_, rfl, ?_⟩
            refine ited (fun c10 => ?_) (fun c10 => ?_)
            · try dsimp only [tSeq, tAsg, gName, tOp, tUn, tCB, tCons, tNil, tCall, tMethK1, tCallK1, tPar3, tRet, tRetN, tDrop, tTest, tB, tC, tNext, tAugS, tAug, sFld1, sFldAug1, tMeth1, tMake, tMakeK1, tSl, tPart, tNoPart, sDPut1, tDPop, tBM, tBM0, tPar, gSub, tChain, tNot, tNotV, tDG1, tDG2, tDNewT1, iKeys1, iEnum1, iList1, iTup1, iRng1, iRng2, List.set_cons_zero, List.set_cons_succ]
              refine x_lc ?_
              try dsimp only [tOp, tUn, tCB, tCons, tNil, tCall, tMethK1, tCallK1, tC, tMeth1, tMake, tMakeK1, tSl, tPart, tNoPart, tDPop, tChain, tNotV, tBM, tBM0, tDG1, tDG2, tDNewT1, iKeys1, iEnum1, iList1, iTup1, iRng1, iRng2]
              refine x_lc ?_
              try dsimp only [tOp, tUn, tCB, tCons, tNil, tCall, tMethK1, tCallK1, tC, tMeth1, tMake, tMakeK1, tSl, tPart, tNoPart, tDPop, tChain, tNotV, tBM, tBM0, tDG1, tDG2, tDNewT1, iKeys1, iEnum1, iList1, iTup1, iRng1, iRng2]
              refine x_var (by exact rfl) ?_
              refine x_istr ?_
              refine lcW (walk_str (z := abc)) S (fun qa4 H S => ⟨fun j H1 => Sep H0 [dp, dg] H1 [(2, qa4, .lst ((qz.take j).map V.str)), (2, L2, .lst (ss.map V.str)), (2, L1, .lst [.str "clock", .str "past", .str "ask", .str "stop", .str "told", .str "piece", .str "room", .str "in", .str "out", .str "done"]), (1, dp, .dK (R_drw dg dc dr dt dm)), (1, dg, .lst (gs.map V.int)), (0, dc, .lst (cs.map V.int))], ?_, ?_, ?_, ?_⟩)
              · exact S.sub [0, 2, 3, 4, 5, 6]
              · rintro j H hi S
                trivial
              · rintro j y H H9 hi S hy
                obtain ⟨rfl, c, hc, rfl⟩ := hy
                refine ⟨rfl, ?_⟩
                try dsimp only [wipe, tYes, tSeq, tAsg, gName, tOp, tUn, tCB, tCons, tNil, tCall, tMethK1, tCallK1, tPar3, tRet, tRetN, tDrop, tTest, tB, tC, tNext, tAugS, tAug, sFld1, sFldAug1, tMeth1, tMake, tMakeK1, tSl, tPart, tNoPart, sDPut1, tDPop, tBM, tBM0, tPar, gSub, tChain, tNot, tNotV, tDG1, tDG2, tDNewT1, iKeys1, iEnum1, iList1, iTup1, iRng1, iRng2, List.set_cons_zero, List.set_cons_succ]
                refine iteT ?_
                refine x_var (by exact rfl) ?_
                refine x_addS (by first | omega | (simp only [len_app]; omega) | exact Nat.le_of_ble_eq_true (by exact rfl)) ?_
                have hq := qz_at hc
                refine x_lcappS S 0 (by exact rfl) (by rw [List.length_take]; have : qz.length = 26 := rfl; omega) (fun H S => ?_)
                rw [← take_snoc hq] at S
                exact S
              · rintro H S
                rw [show qz.take abc.cps.size = qz from rfl] at S
                refine x_ilist S 0 (by exact rfl) ?_
                refine lcW (walk_list (xs := qz.map V.str)) S (fun ql4 H S => ⟨fun j H1 => Sep H0 [dp, dg] H1 [(2, ql4, .lst (((qz.take j).filter fun s => !decide (s ∈ ss)).map V.str)), (2, qa4, .lst (qz.map V.str)), (2, L2, .lst (ss.map V.str)), (2, L1, .lst [.str "clock", .str "past", .str "ask", .str "stop", .str "told", .str "piece", .str "room", .str "in", .str "out", .str "done"]), (1, dp, .dK (R_drw dg dc dr dt dm)), (1, dg, .lst (gs.map V.int)), (0, dc, .lst (cs.map V.int))], ?_, ?_, ?_, ?_⟩)
                · exact S.sub [0, 1, 2, 3, 4, 5, 6]
                · rintro j H hi S
                  exact S.sl 1 rfl
                · rintro j y H H9 hi S hy
                  obtain ⟨rfl, hy⟩ := hy
                  obtain ⟨z, hz, rfl⟩ := elem_of hy
                  refine ⟨rfl, ?_⟩
                  try dsimp only [wipe, tYes, tSeq, tAsg, gName, tOp, tUn, tCB, tCons, tNil, tCall, tMethK1, tCallK1, tPar3, tRet, tRetN, tDrop, tTest, tB, tC, tNext, tAugS, tAug, sFld1, sFldAug1, tMeth1, tMake, tMakeK1, tSl, tPart, tNoPart, sDPut1, tDPop, tBM, tBM0, tPar, gSub, tChain, tNot, tNotV, tDG1, tDG2, tDNewT1, iKeys1, iEnum1, iList1, iTup1, iRng1, iRng2, List.set_cons_zero, List.set_cons_succ]
                  refine x_var (by exact rfl) ?_
                  refine x_var (by exact rfl) ?_
                  refine x_niS S 2 (by exact rfl) ?_
                  refine ⟨_, rfl, ?_⟩
                  refine itend (fun c11 => ?_) (fun c11 => ?_)
                  · refine x_var (by exact rfl) ?_
                    have hfl := List.length_filter_le (fun s => !decide (s ∈ ss)) (qz.take j)
                    refine x_lcappS S 0 (by exact rfl) (by rw [List.length_take] at hfl; have : qz.length = 26 := rfl; omega) (fun H S => ?_)
                    rw [take_snoc hz]
                    rw [filter_snoc_pos (by rw [decide_eq_false c11]; rfl)] at S
                    exact S
                  · rw [take_snoc hz, ← filter_snoc_neg (by rw [decide_eq_true c11]; rfl)]
                    exact S
                · rintro H S
                  rw [List.length_map, List.take_length] at S
                  obtain ⟨sq, rq, hsq⟩ := qz_left (ss := ss) (by omega)
                  have oksq : OkN sq := qz_ok sq (List.mem_filter.mp (show sq ∈ qz.filter (fun s => !decide (s ∈ ss)) by rw [hsq]; exact List.mem_cons_self)).1
                  have nsq : ¬ sq ∈ ss := by have m : sq ∈ qz.filter (fun s => !decide (s ∈ ss)) := by rw [hsq]; exact List.mem_cons_self
                                             simpa using (List.mem_filter.mp m).2
                  rw [hsq] at S
                  refine x_ixF S 0 (by exact rfl) at0 ?_
                  try dsimp only [tSeq, tAsg, gName, tOp, tUn, tCB, tCons, tNil, tCall, tMethK1, tCallK1, tPar3, tRet, tRetN, tDrop, tTest, tB, tC, tNext, tAugS, tAug, sFld1, sFldAug1, tMeth1, tMake, tMakeK1, tSl, tPart, tNoPart, sDPut1, tDPop, tBM, tBM0, tPar, gSub, tChain, tNot, tNotV, tDG1, tDG2, tDNewT1, iKeys1, iEnum1, iList1, iTup1, iRng1, iRng2, List.set_cons_zero, List.set_cons_succ]
                  refine x_var (by exact rfl) ?_
                  refine ⟨x_ty S 2 (by exact rfl), ?_⟩
                  refine x_var (by exact rfl) ?_
                  refine x_appS S 2 (by exact rfl) (by omega) (fun H S => ?_)
                  simp only [List.set_cons_zero, List.set_cons_succ] at S
                  have okn := oksq
                  have nin := nsq
                  refine ⟨_, _, _, _, _, _, _, _, rfl, by rw [List.length_append, hsl]; rfl, ⟨?_, fun s hs => (List.mem_append.mp hs).elim (hss.2 s) (fun e => by rw [List.mem_singleton.mp e]; exact okn)⟩, hd, S.sub [2, 3, 4, 5, 6]⟩
                  exact List.nodup_append.mpr ⟨hss.1, List.nodup_cons.mpr ⟨fun h => (nomatch h), List.nodup_nil⟩, fun a ha b hb e => nin (by rw [List.mem_singleton.mp hb] at e; rw [← e]; exact ha)⟩
            · try dsimp only [tSeq, tAsg, gName, tOp, tUn, tCB, tCons, tNil, tCall, tMethK1, tCallK1, tPar3, tRet, tRetN, tDrop, tTest, tB, tC, tNext, tAugS, tAug, sFld1, sFldAug1, tMeth1, tMake, tMakeK1, tSl, tPart, tNoPart, sDPut1, tDPop, tBM, tBM0, tPar, gSub, tChain, tNot, tNotV, tDG1, tDG2, tDNewT1, iKeys1, iEnum1, iList1, iTup1, iRng1, iRng2, List.set_cons_zero, List.set_cons_succ]
              refine x_var (by exact rfl) ?_
              refine ⟨x_ty S 1 (by exact rfl), ?_⟩
              refine x_var (by exact rfl) ?_
              refine x_appS S 1 (by exact rfl) (by omega) (fun H S => ?_)
              simp only [List.set_cons_zero, List.set_cons_succ] at S
              have nin := c10
              have okn : OkN (Txt.join "" ys) := ⟨by omega, by omega, Low.join hyw⟩
              refine ⟨_, _, _, _, _, _, _, _, rfl, by rw [List.length_append, hsl]; rfl, ⟨?_, fun s hs => (List.mem_append.mp hs).elim (hss.2 s) (fun e => by rw [List.mem_singleton.mp e]; exact okn)⟩, hd, S.sub [1, 2, 3, 4, 5]⟩
              exact List.nodup_append.mpr ⟨hss.1, List.nodup_cons.mpr ⟨fun h => (nomatch h), List.nodup_nil⟩, fun a ha b hb e => nin (by rw [List.mem_singleton.mp hb] at e; rw [← e]; exact ha)⟩
    · rintro σ H ⟨ss, dr, dt, dm, gs, q1, q2, q3, rfl, hsl, hss, hd, S⟩
      try dsimp only [tSeq, tAsg, gName, tOp, tUn, tCB, tCons, tNil, tCall, tMethK1, tCallK1, tPar3, tRet, tRetN, tDrop, tTest, tB, tC, tNext, tAugS, tAug, sFld1, sFldAug1, tMeth1, tMake, tMakeK1, tSl, tPart, tNoPart, sDPut1, tDPop, tBM, tBM0, tPar, gSub, tChain, tNot, tNotV, tDG1, tDG2, tDNewT1, iKeys1, iEnum1, iList1, iTup1, iRng1, iRng2, List.set_cons_zero, List.set_cons_succ]
      try dsimp only [tSeq, tAsg, gName, tOp, tUn, tCB, tCons, tNil, tCall, tMethK1, tCallK1, tPar3, tRet, tRetN, tDrop, tTest, tB, tC, tNext, tAugS, tAug, sFld1, sFldAug1, tMeth1, tMake, tMakeK1, tSl, tPart, tNoPart, sDPut1, tDPop, tBM, tBM0, tPar, gSub, tChain, tNot, tNotV, tDG1, tDG2, tDNewT1, iKeys1, iEnum1, iList1, iTup1, iRng1, iRng2, List.set_cons_zero, List.set_cons_succ]
      refine x_var (by exact rfl) ?_
      exact k ss _ _ _ _ _ _ (by omega) hss hd (S.sub [0, 2, 3])
end
end G

set_option linter.all false
set_option maxRecDepth 100000
set_option maxHeartbeats 4000000
namespace G
open PySem PySem.Spec PyProof.Rows L2

inductive RowK where
  | add (k : Str) (n : Int)
  | put (k : Str) (n : Int)
  | oth
  | non
/-- a row of a record, as far as its tuples are told by the cells -/
def RowIn (L : List Cell) (v : V) : RowK → Prop
  | .add k n => ∃ (r x : Addr) (a b c : V), v = .ref r ∧ (2, r, HO.tup [.str "step", a, b, c, .ref x]) ∈ L ∧ (2, x, HO.tup [.str "add", .str k, .int n]) ∈ L
  | .put k n => ∃ (r x : Addr) (a b c : V), v = .ref r ∧ (2, r, HO.tup [.str "step", a, b, c, .ref x]) ∈ L ∧ (2, x, HO.tup [.str "put", .str k, .int n]) ∈ L
  | .oth => ∃ (r x : Addr) (a b c : V) (w : Str) (ys : List V), v = .ref r ∧ (2, r, HO.tup [.str "step", a, b, c, .ref x]) ∈ L ∧ (2, x, HO.tup (.str w :: ys)) ∈ L ∧ w ≠ "add" ∧ w ≠ "put"
  | .non => ∃ (r : Addr) (kd : Str) (ys : List V), v = .ref r ∧ (2, r, HO.tup (.str kd :: ys)) ∈ L ∧ kd ≠ "step"
theorem RowIn.mono {L L' : List Cell} {v : V} (h : ∀ c ∈ L, c ∈ L') : ∀ {rk : RowK}, RowIn L v rk → RowIn L' v rk
  | .add _ _, ⟨r, x, a, b, c, e, h1, h2⟩ => ⟨r, x, a, b, c, e, h _ h1, h _ h2⟩
  | .put _ _, ⟨r, x, a, b, c, e, h1, h2⟩ => ⟨r, x, a, b, c, e, h _ h1, h _ h2⟩
  | .oth, ⟨r, x, a, b, c, w, ys, e, h1, h2, h3⟩ => ⟨r, x, a, b, c, w, ys, e, h _ h1, h _ h2, h3⟩
  | .non, ⟨r, kd, ys, e, h1, h2⟩ => ⟨r, kd, ys, e, h _ h1, h2⟩
/-- the same, of the heap -/
def RowAt (H : Hp) (v : V) : RowK → Prop
  | .add k n => ∃ (r x : Addr) (a b c : V), v = .ref r ∧ H r = some (.tup [.str "step", a, b, c, .ref x]) ∧ H x = some (.tup [.str "add", .str k, .int n])
  | .put k n => ∃ (r x : Addr) (a b c : V), v = .ref r ∧ H r = some (.tup [.str "step", a, b, c, .ref x]) ∧ H x = some (.tup [.str "put", .str k, .int n])
  | .oth => ∃ (r x : Addr) (a b c : V) (w : Str) (ys : List V), v = .ref r ∧ H r = some (.tup [.str "step", a, b, c, .ref x]) ∧ H x = some (.tup (.str w :: ys)) ∧ w ≠ "add" ∧ w ≠ "put"
  | .non => ∃ (r : Addr) (kd : Str) (ys : List V), v = .ref r ∧ H r = some (.tup (.str kd :: ys)) ∧ kd ≠ "step"
theorem RowIn.at {H0 H : Hp} {ft : List Addr} {l L : List Cell} {v : V} (S : Sep H0 ft H l) (hL : ∀ c ∈ L, c ∈ l) : ∀ {rk : RowK}, RowIn L v rk → RowAt H v rk
  | .add _ _, ⟨r, x, a, b, c, e, h1, h2⟩ => ⟨r, x, a, b, c, e, S.rd _ (hL _ h1), S.rd _ (hL _ h2)⟩
  | .put _ _, ⟨r, x, a, b, c, e, h1, h2⟩ => ⟨r, x, a, b, c, e, S.rd _ (hL _ h1), S.rd _ (hL _ h2)⟩
  | .oth, ⟨r, x, a, b, c, w, ys, e, h1, h2, h3⟩ => ⟨r, x, a, b, c, w, ys, e, S.rd _ (hL _ h1), S.rd _ (hL _ h2), h3⟩
  | .non, ⟨r, kd, ys, e, h1, h2⟩ => ⟨r, kd, ys, e, S.rd _ (hL _ h1), h2⟩
theorem RowAt.mono {H H' : Hp} {v : V} (F : ∀ b o, H b = some o → H' b = some o) : ∀ {rk : RowK}, RowAt H v rk → RowAt H' v rk
  | .add _ _, ⟨r, x, a, b, c, e, h1, h2⟩ => ⟨r, x, a, b, c, e, F _ _ h1, F _ _ h2⟩
  | .put _ _, ⟨r, x, a, b, c, e, h1, h2⟩ => ⟨r, x, a, b, c, e, F _ _ h1, F _ _ h2⟩
  | .oth, ⟨r, x, a, b, c, w, ys, e, h1, h2, h3⟩ => ⟨r, x, a, b, c, w, ys, e, F _ _ h1, F _ _ h2, h3⟩
  | .non, ⟨r, kd, ys, e, h1, h2⟩ => ⟨r, kd, ys, e, F _ _ h1, h2⟩
def spNumber : Sp := fun vs H Q _ => ∃ (dp dg dc : Addr) (dr dt dm : Int) (gs cs : List Int), vs = [.ref dp] ∧ Sep H [dp, dg] H [(1, dp, .dK (R_drw dg dc dr dt dm)), (1, dg, .lst (gs.map V.int)), (0, dc, .lst (cs.map V.int))] ∧ Drw dr dt dm gs ∧
  ∀ (z dr' dt' dm' : Int) (gs' : List Int) (H' : Hp), Drw dr' dt' dm' gs' → H' dp = some (.dK (R_drw dg dc dr' dt' dm')) → H' dg = some (.lst (gs'.map V.int)) → (∀ b o, H b = some o → b ≠ dp → b ≠ dg → H' b = some o) → Q (.int z) H'
theorem c_number {H0 H : Hp} {ft : List Addr} {l : List Cell} {t1 t2 t3 : Nat} {dp dg dc : Addr} {dr dt dm : Int} {gs cs : List Int} {Q : VK} {E : XK} (S : Sep H0 ft H l) (i j k : Nat) (hi : l[i]? = some (t1, dp, .dK (R_drw dg dc dr dt dm))) (hj : l[j]? = some (t2, dg, .lst (gs.map V.int))) (hk : l[k]? = some (t3, dc, .lst (cs.map V.int)))
    (h : Drw dr dt dm gs) (q : ∀ (z dr dt dm : Int) (gs : List Int) (H' : Hp), Drw dr dt dm gs → Sep H0 ft H' ((l.set i (t1, dp, .dK (R_drw dg dc dr dt dm))).set j (t2, dg, .lst (gs.map V.int))) → Q (.int z) H')
    (hn : [i, j, k].Nodup := by decide) (ht1 : t1 = 1 ∨ t1 = 2 := by first | exact .inl rfl | exact .inr rfl) (ht2 : t2 = 1 ∨ t2 = 2 := by first | exact .inl rfl | exact .inr rfl) : spNumber [.ref dp] H Q E :=
  ⟨dp, dg, dc, dr, dt, dm, gs, cs, rfl, by
    have g3 := S.give3 i j k hi hj hk hn
    exact (g3.retag rfl (by simp) (by simp) (by simp)), h, fun v dr' dt' dm' gs' H' hd e1 e2 F => q v dr' dt' dm' gs' H' hd (S.chg2 i j hi hj (fun z => by subst z; simp at hn) F e1 e2 ht1 ht2)⟩
def spRow : Sp := fun vs H Q _ => ∃ (dp dg dc ks : Addr) (dr dt dm : Int) (gs cs : List Int) (ss : List Str), vs = [.ref dp, .ref ks] ∧ Sep H [dp, dg] H [(1, dp, .dK (R_drw dg dc dr dt dm)), (1, dg, .lst (gs.map V.int)), (0, dc, .lst (cs.map V.int)), (0, ks, .lst (ss.map V.str))] ∧ Drw dr dt dm gs ∧ 0 < ss.length ∧ ss.length ≤ 100 ∧
  ∀ (v : V) (rk : RowK) (L : List Cell) (dr' dt' dm' : Int) (gs' : List Int) (H' : Hp), (∀ c ∈ L, c.1 = 2) → RowIn L v rk → Drw dr' dt' dm' gs' → Sep H [dp, dg] H' (L ++ [(1, dp, .dK (R_drw dg dc dr' dt' dm')), (1, dg, .lst (gs'.map V.int))]) → Q v H'
theorem pm_ok : ∀ v ∈ ([.int 1, .int (-1), .int 1] : List V), ∃ z : Int, v = .int z ∧ -1 ≤ z ∧ z ≤ 1 := by
  intro v hv
  simp only [List.mem_cons, List.not_mem_nil, or_false] at hv
  rcases hv with rfl | rfl | rfl <;> exact ⟨_, rfl, by decide, by decide⟩
section
variable {P : Program} {w : World} {K : PySem.W.Frag} {mg : Str → Option Value} {base : Heap}
abbrev s_law_number : Stmt := (topS 7)
theorem sc_law_number : FnScope ["_law_draw"] ["_law_draw"] (defScope s_law_number) := ⟨rfl, rfl, rfl, by decide +kernel, rfl, by decide +kernel, by decide +kernel⟩
theorem ok_law_number {f : Addr} {fd : FuncData} (F : L2.Fun K "_law_number" "_law_number" s_law_number f fd) (ctake : Cal P w K mg base CX0 1 "_law_take" spLTake) (cpick : Cal P w K mg base CX0 2 "_law_pick" (spPick K)) : FnOk P w K mg base CX0 3 f fd ["_law_draw"] spNumber := by
  refine F.ok sc_law_number (fun vs H Q E h => ?_) (fun cdv A outer s H0 vs Q E hr h => ?_)
  · obtain ⟨dp, dg, dc, dr, dt, dm, gs, cs, rfl, S, hd, k⟩ := h
    rfl
  · obtain ⟨dp, dg, dc, dr, dt, dm, gs, cs, rfl, S, hd, k⟩ := h
    have hu := hu_of hr

    refine ⟨_, pss_one (ps_ret (pe_op op_mul (pe_c ctake hr (by decide) (by rfl) pass0 (pa_cons (pv 0) (pa_cons (pe_ix (ix_listK K) (pe_lst1 (pa_cons (pe_int) (pa_cons (pe_op op_pow (pe_int) (pe_int)) pa_nil))) (pe_op op_fdivW (pe_c ctake hr (by decide) (by rfl) pass0 (pa_cons (pv 0) (pa_cons (pe_int) pa_nil))) (pe_int)) (fun _ _ => rfl)) pa_nil))) (pe_c cpick hr (by decide) (by rfl) pass0 (pa_cons (pv 0) (pa_cons (pe_lst1 (pa_cons (pe_int) (pa_cons (pe_un un_neg (pe_int)) (pa_cons (pe_int) pa_nil)))) pa_nil))))), ?_⟩
    rw [show start ["_law_draw"] [V.ref dp] = [some (V.ref dp)] from rfl]
    try dsimp only [tSeq, tAsg, gName, tOp, tUn, tCB, tCons, tNil, tCall, tMethK1, tCallK1, tPar3, tRet, tRetN, tDrop, tTest, tB, tC, tNext, tAugS, tAug, sFld1, sFldAug1, tMeth1, tMake, tMakeK1, tSl, tPart, tNoPart, sDPut1, tDPop, tBM, tBM0, tPar, gSub, tChain, tNot, tNotV, tDG1, tDG2, tDNewT1, iKeys1, iEnum1, iList1, iTup1, iRng1, iRng2, List.set_cons_zero, List.set_cons_succ]
    refine x_var (by exact rfl) ?_
    refine x_I ⟨by decide, by decide, by first | assumption | omega⟩ ?_
    refine x_lst S (by exact Nat.le_of_ble_eq_true rfl) (fun L1 H S => ?_)
    refine x_var (by exact rfl) ?_
    refine c_ltake S 1 2 3 (by exact rfl) (by exact rfl) (by exact rfl) hd (by first | omega | decide | (simp only [len_insAt, List.length_map, List.length_append, List.length_cons, List.length_nil, List.length_take, List.length_drop] at *; omega)) (by first | omega | decide | (simp only [len_insAt, List.length_map, List.length_append, List.length_cons, List.length_nil, List.length_take, List.length_drop] at *; omega)) (fun v1 dr dt dm gs H v1a v1b hd S => ?_)
    simp only [List.set_cons_zero, List.set_cons_succ] at S
    refine x_I (by first | exact ⟨by decide, by decide⟩ | exact div_ok (by omega) (by omega)) ?_
    refine x_ixI (cs := [9, 10 ^ Int.toNat 39]) S 0 (by exact rfl) (by omega) (by first | (show (_ : Int) < 2; omega) | omega) (fun v2 hv2 => ?_)
    have hv2 := List.mem_of_getElem? hv2
    simp only [List.mem_cons, List.not_mem_nil, or_false] at hv2
    have hb : 0 < v2 ∧ v2 < 2 ^ 200 := by rcases hv2 with h | h <;> rw [h] <;> decide
    obtain ⟨hb1, hb2⟩ := hb
    refine c_ltake S 1 2 3 (by exact rfl) (by exact rfl) (by exact rfl) hd (by first | omega | decide | (simp only [len_insAt, List.length_map, List.length_append, List.length_cons, List.length_nil, List.length_take, List.length_drop] at *; omega)) (by first | omega | decide | (simp only [len_insAt, List.length_map, List.length_append, List.length_cons, List.length_nil, List.length_take, List.length_drop] at *; omega)) (fun v3 dr dt dm gs H v3a v3b hd S => ?_)
    simp only [List.set_cons_zero, List.set_cons_succ] at S
    refine x_var (by exact rfl) ?_
    refine x_U ?_
    refine x_lst S (by exact Nat.le_of_ble_eq_true rfl) (fun L2 H S => ?_)
    refine c_pick (fun v => ∃ z : Int, v = .int z ∧ -1 ≤ z ∧ z ≤ 1) S 2 3 4 (by exact rfl) (by exact rfl) (by exact rfl) hd (SomeV.lst S 0 2 3 (by exact rfl) (by exact rfl) (by exact rfl) (by decide) (by decide) pm_ok) (fun pk1 dr dt dm gs H hpk1 hd S => ?_)
    simp only [List.set_cons_zero, List.set_cons_succ] at S
    obtain ⟨zpk1, rfl, zpk1a, zpk1b⟩ := hpk1
    refine x_I (by first | exact .inr ⟨by decide, by decide⟩ | exact .inl ⟨by decide, by decide⟩ | exact .inr ⟨by omega, by omega⟩ | exact .inl ⟨by omega, by omega⟩) ?_
    exact k _ _ _ _ _ _ hd (S.get 2 rfl) (S.get 3 rfl) S.out2
end
theorem one2 {a : Cell} (h : a.1 = 2) : ∀ c ∈ [a], c.1 = 2 := fun c hc => by rw [List.mem_singleton.mp hc]; exact h
theorem two2 {a b : Cell} (h : a.1 = 2) (h' : b.1 = 2) : ∀ c ∈ [a, b], c.1 = 2 := fun c hc => by
  rcases List.mem_cons.mp hc with rfl | hc
  · exact h
  · rw [List.mem_singleton.mp hc]; exact h'
section
variable {P : Program} {w : World} {K : PySem.W.Frag} {mg : Str → Option Value} {base : Heap}
abbrev s_law_row : Stmt := (topS 8)
theorem sc_law_row : FnScope ["_law_draw", "_law_keys", "_law_key", "_law_task", "_law_way", "_law_some"] ["_law_draw", "_law_keys"] (defScope s_law_row) := ⟨rfl, rfl, rfl, by decide +kernel, rfl, by decide +kernel, by decide +kernel⟩
theorem ok_law_row {f : Addr} {fd : FuncData} (F : L2.Fun K "_law_row" "_law_row" s_law_row f fd) (ctake : Cal P w K mg base CX0 1 "_law_take" spLTake) (cpick : Cal P w K mg base CX0 2 "_law_pick" (spPick K)) (cnum : Cal P w K mg base CX0 3 "_law_number" spNumber) : FnOk P w K mg base CX0 4 f fd ["_law_draw", "_law_keys"] spRow := by
  refine F.ok sc_law_row (fun vs H Q E h => ?_) (fun cdv A outer s H0 vs Q E hr h => ?_)
  · obtain ⟨dp, dg, dc, ks, dr, dt, dm, gs, cs, ss, rfl, S, hd, h0, h1, k⟩ := h
    rfl
  · obtain ⟨dp, dg, dc, ks, dr, dt, dm, gs, cs, ss, rfl, S, hd, h0, h1, k⟩ := h
    have hu := hu_of hr

    refine ⟨_, pss_cons (ps_set (i := 2) sc_law_row.nd rfl (.inl rfl) (pe_c cpick hr (by decide) (by rfl) pass0 (pa_cons (pv 0) (pa_cons (pv 1) pa_nil))))
      (pss_cons (ps_set (i := 3) sc_law_row.nd rfl (.inl rfl) (pe_tup1 (pa_cons (pe_c cpick hr (by decide) (by rfl) pass0 (pa_cons (pv 0) (pa_cons (pv 1) pa_nil))) (pa_cons (pe_op op_add (pe_int) (pe_c ctake hr (by decide) (by rfl) pass0 (pa_cons (pv 0) (pa_cons (pe_int) pa_nil)))) (pa_cons (pe_op op_add (pe_int) (pe_c ctake hr (by decide) (by rfl) pass0 (pa_cons (pv 0) (pa_cons (pe_int) pa_nil)))) pa_nil)))))
      (pss_cons (ps_set (i := 4) sc_law_row.nd rfl (.inl rfl) (pe_c ctake hr (by decide) (by rfl) pass0 (pa_cons (pv 0) (pa_cons (pe_int) pa_nil))))
      (pss_cons (ps_set (i := 5) sc_law_row.nd rfl (.inl rfl) (pe_lst1 (pa_cons (pe_tup1 (pa_cons (pe_str) (pa_cons (pv 2) (pa_cons (pe_c cnum hr (by decide) (by rfl) pass0 (pa_cons (pv 0) pa_nil)) pa_nil)))) (pa_cons (pe_tup1 (pa_cons (pe_str) (pa_cons (pv 2) (pa_cons (pe_c cnum hr (by decide) (by rfl) pass0 (pa_cons (pv 0) pa_nil)) pa_nil)))) (pa_cons (pe_tup1 (pa_cons (pe_str) (pa_cons (pv 2) (pa_cons (pe_c cnum hr (by decide) (by rfl) pass0 (pa_cons (pv 0) pa_nil)) pa_nil)))) pa_nil)))))
      (pss_cons (ps_set (i := 5) sc_law_row.nd rfl (.inl rfl) (pe_op op_cat (pv 5) (pe_lst1 (pa_cons (pe_tup1 (pa_cons (pe_str) (pa_cons (pe_c cnum hr (by decide) (by rfl) pass0 (pa_cons (pv 0) pa_nil)) pa_nil))) (pa_cons (pe_tup1 (pa_cons (pe_str) (pa_cons (pe_c cnum hr (by decide) (by rfl) pass0 (pa_cons (pv 0) pa_nil)) pa_nil))) (pa_cons (pe_tup1 (pa_cons (pe_str) (pa_cons (pe_c cnum hr (by decide) (by rfl) pass0 (pa_cons (pv 0) pa_nil)) pa_nil))) (pa_cons (pe_tup1 (pa_cons (pe_str) (pa_cons (pe_int) pa_nil))) pa_nil)))))))
      (pss_cons (ps_set (i := 5) sc_law_row.nd rfl (.inl rfl) (pe_op op_cat (pv 5) (pe_lst1 (pa_cons (pe_tup1 (pa_cons (pe_str) (pa_cons (pv 2) (pa_cons (pv 2) (pa_cons (pe_int) (pa_cons (pe_int) (pa_cons (pe_int) (pa_cons (pe_int) pa_nil)))))))) (pa_cons (pe_tup1 (pa_cons (pe_str) (pa_cons (pe_str) (pa_cons (pe_int) pa_nil)))) pa_nil)))))
      (pss_cons (ps_if (pt_cmpR op_lt (pv 4) (pe_int) (nomark _)) (pss_one (ps_ret (pe_op (op_catTK K) (pe_op (op_catTK K) (pe_tup1 (pa_cons (pe_str) pa_nil)) (pv 3)) (pe_tup1 (pa_cons (pe_ix (ix_listK K) (pv 5) (pe_op op_fdivW (pv 4) (pe_int)) (fun _ _ => rfl)) pa_nil))))) (pss_nil))
      (pss_cons (ps_if (pt_cmpR op_lt (pv 4) (pe_int) (nomark _)) (pss_one (ps_ret (pe_op (op_catTK K) (pe_op (op_catTK K) (pe_tup1 (pa_cons (pe_str) pa_nil)) (pv 3)) (pe_tup1 (pa_cons (pe_ix (ix_listK K) (pv 5) (pe_op op_sub (pv 4) (pe_int)) (fun _ _ => rfl)) pa_nil))))) (pss_nil))
      (pss_one (ps_ret (pe_ix (ix_listK K) (pe_lst1 (pa_cons (pe_op (op_catTK K) (pe_op (op_catTK K) (pe_tup1 (pa_cons (pe_str) pa_nil)) (pv 3)) (pe_tup1 (pa_cons (pe_str) (pa_cons (pe_int) pa_nil)))) (pa_cons (pe_tup1 (pa_cons (pe_str) (pa_cons (pe_int) (pa_cons (pe_str) (pa_cons (pe_int) (pa_cons (pe_int) pa_nil)))))) (pa_cons (pe_op (op_catTK K) (pe_op (op_catTK K) (pe_tup1 (pa_cons (pe_str) pa_nil)) (pv 3)) (pe_tup1 (pa_cons (pv 2) (pa_cons (pe_int) (pa_cons (pe_int) pa_nil))))) pa_nil)))) (pe_op op_sub (pv 4) (pe_int)) (fun _ _ => rfl))))))))))), ?_⟩
    rw [show start ["_law_draw", "_law_keys", "_law_key", "_law_task", "_law_way", "_law_some"] [V.ref dp, V.ref ks] = [some (V.ref dp), some (V.ref ks), none, none, none, none] from rfl]
    try dsimp only [tSeq, tAsg, gName, tOp, tUn, tCB, tCons, tNil, tCall, tMethK1, tCallK1, tPar3, tRet, tRetN, tDrop, tTest, tB, tC, tNext, tAugS, tAug, sFld1, sFldAug1, tMeth1, tMake, tMakeK1, tSl, tPart, tNoPart, sDPut1, tDPop, tBM, tBM0, tPar, gSub, tChain, tNot, tNotV, tDG1, tDG2, tDNewT1, iKeys1, iEnum1, iList1, iTup1, iRng1, iRng2, List.set_cons_zero, List.set_cons_succ]
    refine x_var (by exact rfl) ?_
    refine x_var (by exact rfl) ?_
    refine c_pick (fun v => ∃ s ∈ ss, v = .str s) S 0 1 2 (by exact rfl) (by exact rfl) (by exact rfl) hd (SomeV.lst S 3 0 1 (by exact rfl) (by exact rfl) (by exact rfl) (by rw [List.length_map]; omega) (by rw [List.length_map]; omega) (fun v hv => by obtain ⟨s, hs, rfl⟩ := List.mem_map.mp hv; exact ⟨s, hs, rfl⟩)) (fun pk1 dr dt dm gs H hpk1 hd S => ?_)
    simp only [List.set_cons_zero, List.set_cons_succ] at S
    obtain ⟨spk1, hspk1, rfl⟩ := hpk1
    try dsimp only [tSeq, tAsg, gName, tOp, tUn, tCB, tCons, tNil, tCall, tMethK1, tCallK1, tPar3, tRet, tRetN, tDrop, tTest, tB, tC, tNext, tAugS, tAug, sFld1, sFldAug1, tMeth1, tMake, tMakeK1, tSl, tPart, tNoPart, sDPut1, tDPop, tBM, tBM0, tPar, gSub, tChain, tNot, tNotV, tDG1, tDG2, tDNewT1, iKeys1, iEnum1, iList1, iTup1, iRng1, iRng2, List.set_cons_zero, List.set_cons_succ]
    refine x_var (by exact rfl) ?_
    refine x_var (by exact rfl) ?_
    refine c_pick (fun v => ∃ s ∈ ss, v = .str s) S 0 1 2 (by exact rfl) (by exact rfl) (by exact rfl) hd (SomeV.lst S 3 0 1 (by exact rfl) (by exact rfl) (by exact rfl) (by rw [List.length_map]; omega) (by rw [List.length_map]; omega) (fun v hv => by obtain ⟨s, hs, rfl⟩ := List.mem_map.mp hv; exact ⟨s, hs, rfl⟩)) (fun pk2 dr dt dm gs H hpk2 hd S => ?_)
    simp only [List.set_cons_zero, List.set_cons_succ] at S
    obtain ⟨spk2, hspk2, rfl⟩ := hpk2
    refine x_var (by exact rfl) ?_
    refine c_ltake S 0 1 2 (by exact rfl) (by exact rfl) (by exact rfl) hd (by first | omega | decide | (simp only [len_insAt, List.length_map, List.length_append, List.length_cons, List.length_nil, List.length_take, List.length_drop] at *; omega)) (by first | omega | decide | (simp only [len_insAt, List.length_map, List.length_append, List.length_cons, List.length_nil, List.length_take, List.length_drop] at *; omega)) (fun v1 dr dt dm gs H v1a v1b hd S => ?_)
    simp only [List.set_cons_zero, List.set_cons_succ] at S
    refine x_I0 ?_
    refine x_var (by exact rfl) ?_
    refine c_ltake S 0 1 2 (by exact rfl) (by exact rfl) (by exact rfl) hd (by first | omega | decide | (simp only [len_insAt, List.length_map, List.length_append, List.length_cons, List.length_nil, List.length_take, List.length_drop] at *; omega)) (by first | omega | decide | (simp only [len_insAt, List.length_map, List.length_append, List.length_cons, List.length_nil, List.length_take, List.length_drop] at *; omega)) (fun v2 dr dt dm gs H v2a v2b hd S => ?_)
    simp only [List.set_cons_zero, List.set_cons_succ] at S
    refine x_I0 ?_
    refine x_tup S (by exact Nat.le_of_ble_eq_true rfl) (fun U1 H S => ?_)
    try dsimp only [tSeq, tAsg, gName, tOp, tUn, tCB, tCons, tNil, tCall, tMethK1, tCallK1, tPar3, tRet, tRetN, tDrop, tTest, tB, tC, tNext, tAugS, tAug, sFld1, sFldAug1, tMeth1, tMake, tMakeK1, tSl, tPart, tNoPart, sDPut1, tDPop, tBM, tBM0, tPar, gSub, tChain, tNot, tNotV, tDG1, tDG2, tDNewT1, iKeys1, iEnum1, iList1, iTup1, iRng1, iRng2, List.set_cons_zero, List.set_cons_succ]
    refine x_var (by exact rfl) ?_
    refine c_ltake S 1 2 3 (by exact rfl) (by exact rfl) (by exact rfl) hd (by first | omega | decide | (simp only [len_insAt, List.length_map, List.length_append, List.length_cons, List.length_nil, List.length_take, List.length_drop] at *; omega)) (by first | omega | decide | (simp only [len_insAt, List.length_map, List.length_append, List.length_cons, List.length_nil, List.length_take, List.length_drop] at *; omega)) (fun v3 dr dt dm gs H v3a v3b hd S => ?_)
    simp only [List.set_cons_zero, List.set_cons_succ] at S
    try dsimp only [tSeq, tAsg, gName, tOp, tUn, tCB, tCons, tNil, tCall, tMethK1, tCallK1, tPar3, tRet, tRetN, tDrop, tTest, tB, tC, tNext, tAugS, tAug, sFld1, sFldAug1, tMeth1, tMake, tMakeK1, tSl, tPart, tNoPart, sDPut1, tDPop, tBM, tBM0, tPar, gSub, tChain, tNot, tNotV, tDG1, tDG2, tDNewT1, iKeys1, iEnum1, iList1, iTup1, iRng1, iRng2, List.set_cons_zero, List.set_cons_succ]
    refine x_var (by exact rfl) ?_
    refine x_var (by exact rfl) ?_
    refine c_number S 1 2 3 (by exact rfl) (by exact rfl) (by exact rfl) hd (fun z1 dr dt dm gs H hd S => ?_)
    simp only [List.set_cons_zero, List.set_cons_succ] at S
    refine x_tup S (by exact Nat.le_of_ble_eq_true rfl) (fun U2 H S => ?_)
    refine x_var (by exact rfl) ?_
    refine x_var (by exact rfl) ?_
    refine c_number S 2 3 4 (by exact rfl) (by exact rfl) (by exact rfl) hd (fun z2 dr dt dm gs H hd S => ?_)
    simp only [List.set_cons_zero, List.set_cons_succ] at S
    refine x_tup S (by exact Nat.le_of_ble_eq_true rfl) (fun U3 H S => ?_)
    refine x_var (by exact rfl) ?_
    refine x_var (by exact rfl) ?_
    refine c_number S 3 4 5 (by exact rfl) (by exact rfl) (by exact rfl) hd (fun z3 dr dt dm gs H hd S => ?_)
    simp only [List.set_cons_zero, List.set_cons_succ] at S
    refine x_tup S (by exact Nat.le_of_ble_eq_true rfl) (fun U4 H S => ?_)
    refine x_lst S (by exact Nat.le_of_ble_eq_true rfl) (fun L1 H S => ?_)
    try dsimp only [tSeq, tAsg, gName, tOp, tUn, tCB, tCons, tNil, tCall, tMethK1, tCallK1, tPar3, tRet, tRetN, tDrop, tTest, tB, tC, tNext, tAugS, tAug, sFld1, sFldAug1, tMeth1, tMake, tMakeK1, tSl, tPart, tNoPart, sDPut1, tDPop, tBM, tBM0, tPar, gSub, tChain, tNot, tNotV, tDG1, tDG2, tDNewT1, iKeys1, iEnum1, iList1, iTup1, iRng1, iRng2, List.set_cons_zero, List.set_cons_succ]
    refine x_var (by exact rfl) ?_
    refine x_var (by exact rfl) ?_
    refine c_number S 5 6 7 (by exact rfl) (by exact rfl) (by exact rfl) hd (fun z4 dr dt dm gs H hd S => ?_)
    simp only [List.set_cons_zero, List.set_cons_succ] at S
    refine x_tup S (by exact Nat.le_of_ble_eq_true rfl) (fun U5 H S => ?_)
    refine x_var (by exact rfl) ?_
    refine c_number S 6 7 8 (by exact rfl) (by exact rfl) (by exact rfl) hd (fun z5 dr dt dm gs H hd S => ?_)
    simp only [List.set_cons_zero, List.set_cons_succ] at S
    refine x_tup S (by exact Nat.le_of_ble_eq_true rfl) (fun U6 H S => ?_)
    refine x_var (by exact rfl) ?_
    refine c_number S 7 8 9 (by exact rfl) (by exact rfl) (by exact rfl) hd (fun z6 dr dt dm gs H hd S => ?_)
    simp only [List.set_cons_zero, List.set_cons_succ] at S
    refine x_tup S (by exact Nat.le_of_ble_eq_true rfl) (fun U7 H S => ?_)
    refine x_tup S (by exact Nat.le_of_ble_eq_true rfl) (fun U8 H S => ?_)
    refine x_lst S (by exact Nat.le_of_ble_eq_true rfl) (fun L2 H S => ?_)
    refine x_cat S 5 0 (by exact rfl) (by exact rfl) (by exact Nat.le_of_ble_eq_true (by exact rfl)) (fun ct1 H S => ?_)
    try dsimp only [tSeq, tAsg, gName, tOp, tUn, tCB, tCons, tNil, tCall, tMethK1, tCallK1, tPar3, tRet, tRetN, tDrop, tTest, tB, tC, tNext, tAugS, tAug, sFld1, sFldAug1, tMeth1, tMake, tMakeK1, tSl, tPart, tNoPart, sDPut1, tDPop, tBM, tBM0, tPar, gSub, tChain, tNot, tNotV, tDG1, tDG2, tDNewT1, iKeys1, iEnum1, iList1, iTup1, iRng1, iRng2, List.set_cons_zero, List.set_cons_succ]
    refine x_var (by exact rfl) ?_
    refine x_var (by exact rfl) ?_
    refine x_var (by exact rfl) ?_
    refine x_tup S (by exact Nat.le_of_ble_eq_true rfl) (fun U9 H S => ?_)
    refine x_tup S (by exact Nat.le_of_ble_eq_true rfl) (fun U10 H S => ?_)
    refine x_lst S (by exact Nat.le_of_ble_eq_true rfl) (fun L3 H S => ?_)
    refine x_cat S 3 0 (by exact rfl) (by exact rfl) (by exact Nat.le_of_ble_eq_true (by exact rfl)) (fun ct2 H S => ?_)
    try dsimp only [tSeq, tAsg, gName, tOp, tUn, tCB, tCons, tNil, tCall, tMethK1, tCallK1, tPar3, tRet, tRetN, tDrop, tTest, tB, tC, tNext, tAugS, tAug, sFld1, sFldAug1, tMeth1, tMake, tMakeK1, tSl, tPart, tNoPart, sDPut1, tDPop, tBM, tBM0, tPar, gSub, tChain, tNot, tNotV, tDG1, tDG2, tDNewT1, iKeys1, iEnum1, iList1, iTup1, iRng1, iRng2, List.set_cons_zero, List.set_cons_succ]
    refine x_if ?_
    try dsimp only [tSeq, tAsg, gName, tOp, tUn, tCB, tCons, tNil, tCall, tMethK1, tCallK1, tPar3, tRet, tRetN, tDrop, tTest, tB, tC, tNext, tAugS, tAug, sFld1, sFldAug1, tMeth1, tMake, tMakeK1, tSl, tPart, tNoPart, sDPut1, tDPop, tBM, tBM0, tPar, gSub, tChain, tNot, tNotV, tDG1, tDG2, tDNewT1, iKeys1, iEnum1, iList1, iTup1, iRng1, iRng2, List.set_cons_zero, List.set_cons_succ]
    refine x_var (by exact rfl) ?_
    refine x_I0 ?_
    refine ⟨_, rfl, ?_⟩
    refine ited (fun c1 => ?_) (fun c1 => ?_)
    · rcases (show v3 = 0 ∨ v3 = 1 ∨ v3 = 2 ∨ v3 = 3 by omega) with rfl | rfl | rfl | rfl
      · try dsimp only [tSeq, tAsg, gName, tOp, tUn, tCB, tCons, tNil, tCall, tMethK1, tCallK1, tPar3, tRet, tRetN, tDrop, tTest, tB, tC, tNext, tAugS, tAug, sFld1, sFldAug1, tMeth1, tMake, tMakeK1, tSl, tPart, tNoPart, sDPut1, tDPop, tBM, tBM0, tPar, gSub, tChain, tNot, tNotV, tDG1, tDG2, tDNewT1, iKeys1, iEnum1, iList1, iTup1, iRng1, iRng2, List.set_cons_zero, List.set_cons_succ]
        refine x_tup S (by exact Nat.le_of_ble_eq_true rfl) (fun U11 H S => ?_)
        refine x_var (by exact rfl) ?_
        refine x_catT S 0 15 (by exact rfl) (by exact rfl) (by simp) (by simp) (by exact Nat.le_of_ble_eq_true (by exact rfl)) (fun tt1 H S => ?_)
        refine x_var (by exact rfl) ?_
        refine x_var (by exact rfl) ?_
        refine x_I (by first | exact ⟨by decide, by decide⟩ | exact div_ok (by omega) (by omega)) ?_
        refine x_ixF S 2 (by exact rfl) (by exact (by exact rfl)) ?_
        refine x_tup S (by exact Nat.le_of_ble_eq_true rfl) (fun U12 H S => ?_)
        refine x_catT S 1 0 (by exact rfl) (by exact rfl) (by simp) (by simp) (by exact Nat.le_of_ble_eq_true (by exact rfl)) (fun tt2 H S => ?_)
        exact k _ (.add _ _) [_, _] _ _ _ _ _ (two2 rfl rfl) ⟨_, _, _, _, _, rfl, List.mem_cons_self, List.mem_cons_of_mem _ List.mem_cons_self⟩ hd (S.sub [0, 17, 19, 20])
      · try dsimp only [tSeq, tAsg, gName, tOp, tUn, tCB, tCons, tNil, tCall, tMethK1, tCallK1, tPar3, tRet, tRetN, tDrop, tTest, tB, tC, tNext, tAugS, tAug, sFld1, sFldAug1, tMeth1, tMake, tMakeK1, tSl, tPart, tNoPart, sDPut1, tDPop, tBM, tBM0, tPar, gSub, tChain, tNot, tNotV, tDG1, tDG2, tDNewT1, iKeys1, iEnum1, iList1, iTup1, iRng1, iRng2, List.set_cons_zero, List.set_cons_succ]
        refine x_tup S (by exact Nat.le_of_ble_eq_true rfl) (fun U13 H S => ?_)
        refine x_var (by exact rfl) ?_
        refine x_catT S 0 15 (by exact rfl) (by exact rfl) (by simp) (by simp) (by exact Nat.le_of_ble_eq_true (by exact rfl)) (fun tt3 H S => ?_)
        refine x_var (by exact rfl) ?_
        refine x_var (by exact rfl) ?_
        refine x_I (by first | exact ⟨by decide, by decide⟩ | exact div_ok (by omega) (by omega)) ?_
        refine x_ixF S 2 (by exact rfl) (by exact (by exact rfl)) ?_
        refine x_tup S (by exact Nat.le_of_ble_eq_true rfl) (fun U14 H S => ?_)
        refine x_catT S 1 0 (by exact rfl) (by exact rfl) (by simp) (by simp) (by exact Nat.le_of_ble_eq_true (by exact rfl)) (fun tt4 H S => ?_)
        exact k _ (.add _ _) [_, _] _ _ _ _ _ (two2 rfl rfl) ⟨_, _, _, _, _, rfl, List.mem_cons_self, List.mem_cons_of_mem _ List.mem_cons_self⟩ hd (S.sub [0, 17, 19, 20])
      · try dsimp only [tSeq, tAsg, gName, tOp, tUn, tCB, tCons, tNil, tCall, tMethK1, tCallK1, tPar3, tRet, tRetN, tDrop, tTest, tB, tC, tNext, tAugS, tAug, sFld1, sFldAug1, tMeth1, tMake, tMakeK1, tSl, tPart, tNoPart, sDPut1, tDPop, tBM, tBM0, tPar, gSub, tChain, tNot, tNotV, tDG1, tDG2, tDNewT1, iKeys1, iEnum1, iList1, iTup1, iRng1, iRng2, List.set_cons_zero, List.set_cons_succ]
        refine x_tup S (by exact Nat.le_of_ble_eq_true rfl) (fun U15 H S => ?_)
        refine x_var (by exact rfl) ?_
        refine x_catT S 0 15 (by exact rfl) (by exact rfl) (by simp) (by simp) (by exact Nat.le_of_ble_eq_true (by exact rfl)) (fun tt5 H S => ?_)
        refine x_var (by exact rfl) ?_
        refine x_var (by exact rfl) ?_
        refine x_I (by first | exact ⟨by decide, by decide⟩ | exact div_ok (by omega) (by omega)) ?_
        refine x_ixF S 2 (by exact rfl) (by exact (by exact rfl)) ?_
        refine x_tup S (by exact Nat.le_of_ble_eq_true rfl) (fun U16 H S => ?_)
        refine x_catT S 1 0 (by exact rfl) (by exact rfl) (by simp) (by simp) (by exact Nat.le_of_ble_eq_true (by exact rfl)) (fun tt6 H S => ?_)
        exact k _ (.put _ _) [_, _] _ _ _ _ _ (two2 rfl rfl) ⟨_, _, _, _, _, rfl, List.mem_cons_self, List.mem_cons_of_mem _ List.mem_cons_self⟩ hd (S.sub [0, 16, 19, 20])
      · try dsimp only [tSeq, tAsg, gName, tOp, tUn, tCB, tCons, tNil, tCall, tMethK1, tCallK1, tPar3, tRet, tRetN, tDrop, tTest, tB, tC, tNext, tAugS, tAug, sFld1, sFldAug1, tMeth1, tMake, tMakeK1, tSl, tPart, tNoPart, sDPut1, tDPop, tBM, tBM0, tPar, gSub, tChain, tNot, tNotV, tDG1, tDG2, tDNewT1, iKeys1, iEnum1, iList1, iTup1, iRng1, iRng2, List.set_cons_zero, List.set_cons_succ]
        refine x_tup S (by exact Nat.le_of_ble_eq_true rfl) (fun U17 H S => ?_)
        refine x_var (by exact rfl) ?_
        refine x_catT S 0 15 (by exact rfl) (by exact rfl) (by simp) (by simp) (by exact Nat.le_of_ble_eq_true (by exact rfl)) (fun tt7 H S => ?_)
        refine x_var (by exact rfl) ?_
        refine x_var (by exact rfl) ?_
        refine x_I (by first | exact ⟨by decide, by decide⟩ | exact div_ok (by omega) (by omega)) ?_
        refine x_ixF S 2 (by exact rfl) (by exact (by exact rfl)) ?_
        refine x_tup S (by exact Nat.le_of_ble_eq_true rfl) (fun U18 H S => ?_)
        refine x_catT S 1 0 (by exact rfl) (by exact rfl) (by simp) (by simp) (by exact Nat.le_of_ble_eq_true (by exact rfl)) (fun tt8 H S => ?_)
        exact k _ (.put _ _) [_, _] _ _ _ _ _ (two2 rfl rfl) ⟨_, _, _, _, _, rfl, List.mem_cons_self, List.mem_cons_of_mem _ List.mem_cons_self⟩ hd (S.sub [0, 16, 19, 20])
    · try dsimp only [tSeq, tAsg, gName, tOp, tUn, tCB, tCons, tNil, tCall, tMethK1, tCallK1, tPar3, tRet, tRetN, tDrop, tTest, tB, tC, tNext, tAugS, tAug, sFld1, sFldAug1, tMeth1, tMake, tMakeK1, tSl, tPart, tNoPart, sDPut1, tDPop, tBM, tBM0, tPar, gSub, tChain, tNot, tNotV, tDG1, tDG2, tDNewT1, iKeys1, iEnum1, iList1, iTup1, iRng1, iRng2, List.set_cons_zero, List.set_cons_succ]
      refine x_if ?_
      try dsimp only [tSeq, tAsg, gName, tOp, tUn, tCB, tCons, tNil, tCall, tMethK1, tCallK1, tPar3, tRet, tRetN, tDrop, tTest, tB, tC, tNext, tAugS, tAug, sFld1, sFldAug1, tMeth1, tMake, tMakeK1, tSl, tPart, tNoPart, sDPut1, tDPop, tBM, tBM0, tPar, gSub, tChain, tNot, tNotV, tDG1, tDG2, tDNewT1, iKeys1, iEnum1, iList1, iTup1, iRng1, iRng2, List.set_cons_zero, List.set_cons_succ]
      refine x_var (by exact rfl) ?_
      refine x_I0 ?_
      refine ⟨_, rfl, ?_⟩
      refine ited (fun c2 => ?_) (fun c2 => ?_)
      · rcases (show v3 = 4 ∨ v3 = 5 ∨ v3 = 6 ∨ v3 = 7 ∨ v3 = 8 ∨ v3 = 9 ∨ v3 = 10 by omega) with rfl | rfl | rfl | rfl | rfl | rfl | rfl
        · try dsimp only [tSeq, tAsg, gName, tOp, tUn, tCB, tCons, tNil, tCall, tMethK1, tCallK1, tPar3, tRet, tRetN, tDrop, tTest, tB, tC, tNext, tAugS, tAug, sFld1, sFldAug1, tMeth1, tMake, tMakeK1, tSl, tPart, tNoPart, sDPut1, tDPop, tBM, tBM0, tPar, gSub, tChain, tNot, tNotV, tDG1, tDG2, tDNewT1, iKeys1, iEnum1, iList1, iTup1, iRng1, iRng2, List.set_cons_zero, List.set_cons_succ]
          refine x_tup S (by exact Nat.le_of_ble_eq_true rfl) (fun U19 H S => ?_)
          refine x_var (by exact rfl) ?_
          refine x_catT S 0 15 (by exact rfl) (by exact rfl) (by simp) (by simp) (by exact Nat.le_of_ble_eq_true (by exact rfl)) (fun tt9 H S => ?_)
          refine x_var (by exact rfl) ?_
          refine x_var (by exact rfl) ?_
          refine x_I0 ?_
          refine x_ixF S 2 (by exact rfl) (by exact (by exact rfl)) ?_
          refine x_tup S (by exact Nat.le_of_ble_eq_true rfl) (fun U20 H S => ?_)
          refine x_catT S 1 0 (by exact rfl) (by exact rfl) (by simp) (by simp) (by exact Nat.le_of_ble_eq_true (by exact rfl)) (fun tt10 H S => ?_)
          exact k _ .oth [_, _] _ _ _ _ _ (two2 rfl rfl) ⟨_, _, _, _, _, _, _, rfl, List.mem_cons_self, List.mem_cons_of_mem _ List.mem_cons_self, by decide +kernel, by decide +kernel⟩ hd (S.sub [0, 15, 19, 20])
        · try dsimp only [tSeq, tAsg, gName, tOp, tUn, tCB, tCons, tNil, tCall, tMethK1, tCallK1, tPar3, tRet, tRetN, tDrop, tTest, tB, tC, tNext, tAugS, tAug, sFld1, sFldAug1, tMeth1, tMake, tMakeK1, tSl, tPart, tNoPart, sDPut1, tDPop, tBM, tBM0, tPar, gSub, tChain, tNot, tNotV, tDG1, tDG2, tDNewT1, iKeys1, iEnum1, iList1, iTup1, iRng1, iRng2, List.set_cons_zero, List.set_cons_succ]
          refine x_tup S (by exact Nat.le_of_ble_eq_true rfl) (fun U21 H S => ?_)
          refine x_var (by exact rfl) ?_
          refine x_catT S 0 15 (by exact rfl) (by exact rfl) (by simp) (by simp) (by exact Nat.le_of_ble_eq_true (by exact rfl)) (fun tt11 H S => ?_)
          refine x_var (by exact rfl) ?_
          refine x_var (by exact rfl) ?_
          refine x_I0 ?_
          refine x_ixF S 2 (by exact rfl) (by exact (by exact rfl)) ?_
          refine x_tup S (by exact Nat.le_of_ble_eq_true rfl) (fun U22 H S => ?_)
          refine x_catT S 1 0 (by exact rfl) (by exact rfl) (by simp) (by simp) (by exact Nat.le_of_ble_eq_true (by exact rfl)) (fun tt12 H S => ?_)
          exact k _ .oth [_, _] _ _ _ _ _ (two2 rfl rfl) ⟨_, _, _, _, _, _, _, rfl, List.mem_cons_self, List.mem_cons_of_mem _ List.mem_cons_self, by decide +kernel, by decide +kernel⟩ hd (S.sub [0, 13, 19, 20])
        · try dsimp only [tSeq, tAsg, gName, tOp, tUn, tCB, tCons, tNil, tCall, tMethK1, tCallK1, tPar3, tRet, tRetN, tDrop, tTest, tB, tC, tNext, tAugS, tAug, sFld1, sFldAug1, tMeth1, tMake, tMakeK1, tSl, tPart, tNoPart, sDPut1, tDPop, tBM, tBM0, tPar, gSub, tChain, tNot, tNotV, tDG1, tDG2, tDNewT1, iKeys1, iEnum1, iList1, iTup1, iRng1, iRng2, List.set_cons_zero, List.set_cons_succ]
          refine x_tup S (by exact Nat.le_of_ble_eq_true rfl) (fun U23 H S => ?_)
          refine x_var (by exact rfl) ?_
          refine x_catT S 0 15 (by exact rfl) (by exact rfl) (by simp) (by simp) (by exact Nat.le_of_ble_eq_true (by exact rfl)) (fun tt13 H S => ?_)
          refine x_var (by exact rfl) ?_
          refine x_var (by exact rfl) ?_
          refine x_I0 ?_
          refine x_ixF S 2 (by exact rfl) (by exact (by exact rfl)) ?_
          refine x_tup S (by exact Nat.le_of_ble_eq_true rfl) (fun U24 H S => ?_)
          refine x_catT S 1 0 (by exact rfl) (by exact rfl) (by simp) (by simp) (by exact Nat.le_of_ble_eq_true (by exact rfl)) (fun tt14 H S => ?_)
          exact k _ .oth [_, _] _ _ _ _ _ (two2 rfl rfl) ⟨_, _, _, _, _, _, _, rfl, List.mem_cons_self, List.mem_cons_of_mem _ List.mem_cons_self, by decide +kernel, by decide +kernel⟩ hd (S.sub [0, 12, 19, 20])
        · try dsimp only [tSeq, tAsg, gName, tOp, tUn, tCB, tCons, tNil, tCall, tMethK1, tCallK1, tPar3, tRet, tRetN, tDrop, tTest, tB, tC, tNext, tAugS, tAug, sFld1, sFldAug1, tMeth1, tMake, tMakeK1, tSl, tPart, tNoPart, sDPut1, tDPop, tBM, tBM0, tPar, gSub, tChain, tNot, tNotV, tDG1, tDG2, tDNewT1, iKeys1, iEnum1, iList1, iTup1, iRng1, iRng2, List.set_cons_zero, List.set_cons_succ]
          refine x_tup S (by exact Nat.le_of_ble_eq_true rfl) (fun U25 H S => ?_)
          refine x_var (by exact rfl) ?_
          refine x_catT S 0 15 (by exact rfl) (by exact rfl) (by simp) (by simp) (by exact Nat.le_of_ble_eq_true (by exact rfl)) (fun tt15 H S => ?_)
          refine x_var (by exact rfl) ?_
          refine x_var (by exact rfl) ?_
          refine x_I0 ?_
          refine x_ixF S 2 (by exact rfl) (by exact (by exact rfl)) ?_
          refine x_tup S (by exact Nat.le_of_ble_eq_true rfl) (fun U26 H S => ?_)
          refine x_catT S 1 0 (by exact rfl) (by exact rfl) (by simp) (by simp) (by exact Nat.le_of_ble_eq_true (by exact rfl)) (fun tt16 H S => ?_)
          exact k _ .oth [_, _] _ _ _ _ _ (two2 rfl rfl) ⟨_, _, _, _, _, _, _, rfl, List.mem_cons_self, List.mem_cons_of_mem _ List.mem_cons_self, by decide +kernel, by decide +kernel⟩ hd (S.sub [0, 11, 19, 20])
        · try dsimp only [tSeq, tAsg, gName, tOp, tUn, tCB, tCons, tNil, tCall, tMethK1, tCallK1, tPar3, tRet, tRetN, tDrop, tTest, tB, tC, tNext, tAugS, tAug, sFld1, sFldAug1, tMeth1, tMake, tMakeK1, tSl, tPart, tNoPart, sDPut1, tDPop, tBM, tBM0, tPar, gSub, tChain, tNot, tNotV, tDG1, tDG2, tDNewT1, iKeys1, iEnum1, iList1, iTup1, iRng1, iRng2, List.set_cons_zero, List.set_cons_succ]
          refine x_tup S (by exact Nat.le_of_ble_eq_true rfl) (fun U27 H S => ?_)
          refine x_var (by exact rfl) ?_
          refine x_catT S 0 15 (by exact rfl) (by exact rfl) (by simp) (by simp) (by exact Nat.le_of_ble_eq_true (by exact rfl)) (fun tt17 H S => ?_)
          refine x_var (by exact rfl) ?_
          refine x_var (by exact rfl) ?_
          refine x_I0 ?_
          refine x_ixF S 2 (by exact rfl) (by exact (by exact rfl)) ?_
          refine x_tup S (by exact Nat.le_of_ble_eq_true rfl) (fun U28 H S => ?_)
          refine x_catT S 1 0 (by exact rfl) (by exact rfl) (by simp) (by simp) (by exact Nat.le_of_ble_eq_true (by exact rfl)) (fun tt18 H S => ?_)
          exact k _ .oth [_, _] _ _ _ _ _ (two2 rfl rfl) ⟨_, _, _, _, _, _, _, rfl, List.mem_cons_self, List.mem_cons_of_mem _ List.mem_cons_self, by decide +kernel, by decide +kernel⟩ hd (S.sub [0, 10, 19, 20])
        · try dsimp only [tSeq, tAsg, gName, tOp, tUn, tCB, tCons, tNil, tCall, tMethK1, tCallK1, tPar3, tRet, tRetN, tDrop, tTest, tB, tC, tNext, tAugS, tAug, sFld1, sFldAug1, tMeth1, tMake, tMakeK1, tSl, tPart, tNoPart, sDPut1, tDPop, tBM, tBM0, tPar, gSub, tChain, tNot, tNotV, tDG1, tDG2, tDNewT1, iKeys1, iEnum1, iList1, iTup1, iRng1, iRng2, List.set_cons_zero, List.set_cons_succ]
          refine x_tup S (by exact Nat.le_of_ble_eq_true rfl) (fun U29 H S => ?_)
          refine x_var (by exact rfl) ?_
          refine x_catT S 0 15 (by exact rfl) (by exact rfl) (by simp) (by simp) (by exact Nat.le_of_ble_eq_true (by exact rfl)) (fun tt19 H S => ?_)
          refine x_var (by exact rfl) ?_
          refine x_var (by exact rfl) ?_
          refine x_I0 ?_
          refine x_ixF S 2 (by exact rfl) (by exact (by exact rfl)) ?_
          refine x_tup S (by exact Nat.le_of_ble_eq_true rfl) (fun U30 H S => ?_)
          refine x_catT S 1 0 (by exact rfl) (by exact rfl) (by simp) (by simp) (by exact Nat.le_of_ble_eq_true (by exact rfl)) (fun tt20 H S => ?_)
          exact k _ .oth [_, _] _ _ _ _ _ (two2 rfl rfl) ⟨_, _, _, _, _, _, _, rfl, List.mem_cons_self, List.mem_cons_of_mem _ List.mem_cons_self, by decide +kernel, by decide +kernel⟩ hd (S.sub [0, 7, 19, 20])
        · try dsimp only [tSeq, tAsg, gName, tOp, tUn, tCB, tCons, tNil, tCall, tMethK1, tCallK1, tPar3, tRet, tRetN, tDrop, tTest, tB, tC, tNext, tAugS, tAug, sFld1, sFldAug1, tMeth1, tMake, tMakeK1, tSl, tPart, tNoPart, sDPut1, tDPop, tBM, tBM0, tPar, gSub, tChain, tNot, tNotV, tDG1, tDG2, tDNewT1, iKeys1, iEnum1, iList1, iTup1, iRng1, iRng2, List.set_cons_zero, List.set_cons_succ]
          refine x_tup S (by exact Nat.le_of_ble_eq_true rfl) (fun U31 H S => ?_)
          refine x_var (by exact rfl) ?_
          refine x_catT S 0 15 (by exact rfl) (by exact rfl) (by simp) (by simp) (by exact Nat.le_of_ble_eq_true (by exact rfl)) (fun tt21 H S => ?_)
          refine x_var (by exact rfl) ?_
          refine x_var (by exact rfl) ?_
          refine x_I0 ?_
          refine x_ixF S 2 (by exact rfl) (by exact (by exact rfl)) ?_
          refine x_tup S (by exact Nat.le_of_ble_eq_true rfl) (fun U32 H S => ?_)
          refine x_catT S 1 0 (by exact rfl) (by exact rfl) (by simp) (by simp) (by exact Nat.le_of_ble_eq_true (by exact rfl)) (fun tt22 H S => ?_)
          exact k _ .oth [_, _] _ _ _ _ _ (two2 rfl rfl) ⟨_, _, _, _, _, _, _, rfl, List.mem_cons_self, List.mem_cons_of_mem _ List.mem_cons_self, by decide +kernel, by decide +kernel⟩ hd (S.sub [0, 6, 19, 20])
      · rcases (show v3 = 11 ∨ v3 = 12 ∨ v3 = 13 by omega) with rfl | rfl | rfl
        · try dsimp only [tSeq, tAsg, gName, tOp, tUn, tCB, tCons, tNil, tCall, tMethK1, tCallK1, tPar3, tRet, tRetN, tDrop, tTest, tB, tC, tNext, tAugS, tAug, sFld1, sFldAug1, tMeth1, tMake, tMakeK1, tSl, tPart, tNoPart, sDPut1, tDPop, tBM, tBM0, tPar, gSub, tChain, tNot, tNotV, tDG1, tDG2, tDNewT1, iKeys1, iEnum1, iList1, iTup1, iRng1, iRng2, List.set_cons_zero, List.set_cons_succ]
          refine x_tup S (by exact Nat.le_of_ble_eq_true rfl) (fun U33 H S => ?_)
          refine x_var (by exact rfl) ?_
          refine x_catT S 0 15 (by exact rfl) (by exact rfl) (by simp) (by simp) (by exact Nat.le_of_ble_eq_true (by exact rfl)) (fun tt23 H S => ?_)
          refine x_tup S (by exact Nat.le_of_ble_eq_true rfl) (fun U34 H S => ?_)
          refine x_catT S 1 0 (by exact rfl) (by exact rfl) (by simp) (by simp) (by exact Nat.le_of_ble_eq_true (by exact rfl)) (fun tt24 H S => ?_)
          refine x_tup S (by exact Nat.le_of_ble_eq_true rfl) (fun U35 H S => ?_)
          refine x_tup S (by exact Nat.le_of_ble_eq_true rfl) (fun U36 H S => ?_)
          refine x_var (by exact rfl) ?_
          refine x_catT S 0 20 (by exact rfl) (by exact rfl) (by simp) (by simp) (by exact Nat.le_of_ble_eq_true (by exact rfl)) (fun tt25 H S => ?_)
          refine x_var (by exact rfl) ?_
          refine x_tup S (by exact Nat.le_of_ble_eq_true rfl) (fun U37 H S => ?_)
          refine x_catT S 1 0 (by exact rfl) (by exact rfl) (by simp) (by simp) (by exact Nat.le_of_ble_eq_true (by exact rfl)) (fun tt26 H S => ?_)
          refine x_lst S (by exact Nat.le_of_ble_eq_true rfl) (fun L4 H S => ?_)
          refine x_var (by exact rfl) ?_
          refine x_I0 ?_
          refine x_ixF S 0 (by exact rfl) (by exact (by exact rfl)) ?_
          exact k _ .non [_] _ _ _ _ _ (one2 rfl) ⟨_, _, _, rfl, List.mem_cons_self, by decide +kernel⟩ hd (S.sub [6, 25, 26])
        · try dsimp only [tSeq, tAsg, gName, tOp, tUn, tCB, tCons, tNil, tCall, tMethK1, tCallK1, tPar3, tRet, tRetN, tDrop, tTest, tB, tC, tNext, tAugS, tAug, sFld1, sFldAug1, tMeth1, tMake, tMakeK1, tSl, tPart, tNoPart, sDPut1, tDPop, tBM, tBM0, tPar, gSub, tChain, tNot, tNotV, tDG1, tDG2, tDNewT1, iKeys1, iEnum1, iList1, iTup1, iRng1, iRng2, List.set_cons_zero, List.set_cons_succ]
          refine x_tup S (by exact Nat.le_of_ble_eq_true rfl) (fun U38 H S => ?_)
          refine x_var (by exact rfl) ?_
          refine x_catT S 0 15 (by exact rfl) (by exact rfl) (by simp) (by simp) (by exact Nat.le_of_ble_eq_true (by exact rfl)) (fun tt27 H S => ?_)
          refine x_tup S (by exact Nat.le_of_ble_eq_true rfl) (fun U39 H S => ?_)
          refine x_catT S 1 0 (by exact rfl) (by exact rfl) (by simp) (by simp) (by exact Nat.le_of_ble_eq_true (by exact rfl)) (fun tt28 H S => ?_)
          refine x_tup S (by exact Nat.le_of_ble_eq_true rfl) (fun U40 H S => ?_)
          refine x_tup S (by exact Nat.le_of_ble_eq_true rfl) (fun U41 H S => ?_)
          refine x_var (by exact rfl) ?_
          refine x_catT S 0 20 (by exact rfl) (by exact rfl) (by simp) (by simp) (by exact Nat.le_of_ble_eq_true (by exact rfl)) (fun tt29 H S => ?_)
          refine x_var (by exact rfl) ?_
          refine x_tup S (by exact Nat.le_of_ble_eq_true rfl) (fun U42 H S => ?_)
          refine x_catT S 1 0 (by exact rfl) (by exact rfl) (by simp) (by simp) (by exact Nat.le_of_ble_eq_true (by exact rfl)) (fun tt30 H S => ?_)
          refine x_lst S (by exact Nat.le_of_ble_eq_true rfl) (fun L5 H S => ?_)
          refine x_var (by exact rfl) ?_
          refine x_I0 ?_
          refine x_ixF S 0 (by exact rfl) (by exact (by exact rfl)) ?_
          exact k _ .non [_] _ _ _ _ _ (one2 rfl) ⟨_, _, _, rfl, List.mem_cons_self, by decide +kernel⟩ hd (S.sub [5, 25, 26])
        · try dsimp only [tSeq, tAsg, gName, tOp, tUn, tCB, tCons, tNil, tCall, tMethK1, tCallK1, tPar3, tRet, tRetN, tDrop, tTest, tB, tC, tNext, tAugS, tAug, sFld1, sFldAug1, tMeth1, tMake, tMakeK1, tSl, tPart, tNoPart, sDPut1, tDPop, tBM, tBM0, tPar, gSub, tChain, tNot, tNotV, tDG1, tDG2, tDNewT1, iKeys1, iEnum1, iList1, iTup1, iRng1, iRng2, List.set_cons_zero, List.set_cons_succ]
          refine x_tup S (by exact Nat.le_of_ble_eq_true rfl) (fun U43 H S => ?_)
          refine x_var (by exact rfl) ?_
          refine x_catT S 0 15 (by exact rfl) (by exact rfl) (by simp) (by simp) (by exact Nat.le_of_ble_eq_true (by exact rfl)) (fun tt31 H S => ?_)
          refine x_tup S (by exact Nat.le_of_ble_eq_true rfl) (fun U44 H S => ?_)
          refine x_catT S 1 0 (by exact rfl) (by exact rfl) (by simp) (by simp) (by exact Nat.le_of_ble_eq_true (by exact rfl)) (fun tt32 H S => ?_)
          refine x_tup S (by exact Nat.le_of_ble_eq_true rfl) (fun U45 H S => ?_)
          refine x_tup S (by exact Nat.le_of_ble_eq_true rfl) (fun U46 H S => ?_)
          refine x_var (by exact rfl) ?_
          refine x_catT S 0 20 (by exact rfl) (by exact rfl) (by simp) (by simp) (by exact Nat.le_of_ble_eq_true (by exact rfl)) (fun tt33 H S => ?_)
          refine x_var (by exact rfl) ?_
          refine x_tup S (by exact Nat.le_of_ble_eq_true rfl) (fun U47 H S => ?_)
          refine x_catT S 1 0 (by exact rfl) (by exact rfl) (by simp) (by simp) (by exact Nat.le_of_ble_eq_true (by exact rfl)) (fun tt34 H S => ?_)
          refine x_lst S (by exact Nat.le_of_ble_eq_true rfl) (fun L6 H S => ?_)
          refine x_var (by exact rfl) ?_
          refine x_I0 ?_
          refine x_ixF S 0 (by exact rfl) (by exact (by exact rfl)) ?_
          exact k _ .non [_] _ _ _ _ _ (one2 rfl) ⟨_, _, _, rfl, List.mem_cons_self, by decide +kernel⟩ hd (S.sub [1, 25, 26])
end
end G

set_option linter.all false
set_option maxRecDepth 100000
set_option maxHeartbeats 4000000
namespace G
open PySem PySem.Spec PyProof.Rows L2

def IntsS (kvs : List (Key × V)) : Prop := (kvs.map (·.1)).Nodup ∧ ∀ p ∈ kvs, ∃ (k : Str) (z : Int), p = (.inr k, .int z)
theorem valV_mem : ∀ {kvs : List (Key × V)} {k : Key} {v : V}, valV kvs k = some v → (k, v) ∈ kvs
  | p :: r, k, v, h => by
    by_cases e : p.1 = k
    · rw [valV_pos e] at h
      cases h
      rw [← e]; exact List.mem_cons_self
    · rw [valV_neg e] at h
      exact List.mem_cons_of_mem _ (valV_mem h)
theorem mem_valV : ∀ {kvs : List (Key × V)} {p : Key × V}, (kvs.map (·.1)).Nodup → p ∈ kvs → valV kvs p.1 = some p.2
  | q :: r, p, hn, h => by
    obtain ⟨n1, n2⟩ := List.nodup_cons.mp hn
    rcases List.mem_cons.mp h with rfl | h
    · exact valV_pos rfl
    · have ne : ¬ q.1 = p.1 := fun e => n1 (List.mem_map.mpr ⟨p, h, e.symm⟩)
      rw [valV_neg ne]
      exact mem_valV n2 h
theorem IntsS.nil : IntsS [] := ⟨List.nodup_nil, fun _ h => nomatch h⟩
theorem IntsS.val {kvs : List (Key × V)} {k : Key} {v : V} (h : IntsS kvs) (e : valV kvs k = some v) : ∃ z : Int, v = .int z := by
  obtain ⟨k', z, e2⟩ := h.2 _ (valV_mem e)
  exact ⟨z, (Prod.mk.inj e2).2⟩
theorem IntsS.put {kvs : List (Key × V)} {k : Str} {z : Int} (h : IntsS kvs) : IntsS (putK kvs (.inr k) (.int z)) := by
  cases e : valV kvs (.inr k : Key) with
  | none =>
    refine ⟨nd_putK _ h.1 e, fun p hp => ?_⟩
    rw [putK_new _ e] at hp
    rcases List.mem_append.mp hp with hp | hp
    · exact h.2 p hp
    · exact ⟨k, z, List.mem_singleton.mp hp⟩
  | some v =>
    have ha : (kvs.any fun kv => decide (kv.1 = (.inr k : Key))) = true := List.any_eq_true.mpr ⟨_, valV_mem e, decide_eq_true rfl⟩
    have e2 : putK kvs (.inr k) (.int z) = kvs.map (fun kv => if kv.1 = (.inr k : Key) then (kv.1, .int z) else kv) := by unfold putK; rw [if_pos ha]
    rw [e2]
    refine ⟨?_, fun p hp => ?_⟩
    · rw [List.map_map]
      have : (fun kv : Key × V => kv.1) ∘ (fun kv : Key × V => if kv.1 = (.inr k : Key) then (kv.1, V.int z) else kv) = fun kv => kv.1 := by
        funext kv
        show (if kv.1 = (.inr k : Key) then (kv.1, V.int z) else kv).1 = kv.1
        split <;> rfl
      rw [this]; exact h.1
    · obtain ⟨q, hq, rfl⟩ := List.mem_map.mp hp
      split
      · rename_i c
        exact ⟨k, z, by rw [c]⟩
      · exact h.2 q hq
theorem IntsS.flat {kvs : List (Key × V)} (h : IntsS kvs) : ∀ p ∈ kvs, valV kvs p.1 = some p.2 ∧ flatB p.2 = true := fun p hp => ⟨mem_valV h.1 hp, by
  obtain ⟨k, z, rfl⟩ := h.2 p hp
  rfl⟩
def getI (kvs : List (Key × V)) (k : Str) : Int := match valV kvs (.inr k : Key) with
  | some (.int z) => z
  | _ => 0
theorem getI_none {kvs : List (Key × V)} {k : Str} (h : valV kvs (.inr k : Key) = none) : getI kvs k = 0 := by unfold getI; rw [h]
theorem getI_some {kvs : List (Key × V)} {k : Str} {z : Int} (h : valV kvs (.inr k : Key) = some (.int z)) : getI kvs k = z := by unfold getI; rw [h]
def stStep (kvs : List (Key × V)) : RowK → List (Key × V)
  | .add k n => putK kvs (.inr k) (.int (getI kvs k + n))
  | .put k n => putK kvs (.inr k) (.int n)
  | _ => kvs
def stFold (kvs : List (Key × V)) (rks : List RowK) : List (Key × V) := rks.foldl stStep kvs
theorem stStep_ok {kvs : List (Key × V)} (h : IntsS kvs) : ∀ rk : RowK, IntsS (stStep kvs rk)
  | .add _ _ => h.put
  | .put _ _ => h.put
  | .oth => h
  | .non => h
theorem stFold_ok : ∀ (rks : List RowK) {kvs : List (Key × V)}, IntsS kvs → IntsS (stFold kvs rks)
  | [], _, h => h
  | rk :: r, _, h => stFold_ok r (stStep_ok h rk)
theorem len_step {kvs : List (Key × V)} : ∀ rk : RowK, (stStep kvs rk).length ≤ kvs.length + 1
  | .add _ _ => length_putK _ _ _
  | .put _ _ => length_putK _ _ _
  | .oth => Nat.le_succ _
  | .non => Nat.le_succ _
theorem len_fold : ∀ (rks : List RowK) {kvs : List (Key × V)}, (stFold kvs rks).length ≤ kvs.length + rks.length
  | [], _ => Nat.le_refl _
  | rk :: r, kvs => by
    have h1 := len_fold r (kvs := stStep kvs rk)
    have h2 := len_step (kvs := kvs) rk
    show (stFold (stStep kvs rk) r).length ≤ _
    rw [List.length_cons]
    omega
theorem stFold_snoc {kvs : List (Key × V)} {rks : List RowK} {rk : RowK} : stFold kvs (rks ++ [rk]) = stStep (stFold kvs rks) rk := by unfold stFold; rw [List.foldl_append]; rfl
def RowsAt (H : Hp) : List V → List RowK → Prop
  | [], [] => True
  | v :: vs, r :: rs => RowAt H v r ∧ RowsAt H vs rs
  | _, _ => False
theorem RowsAt.get {H : Hp} : ∀ {vs : List V} {rks : List RowK}, RowsAt H vs rks → ∀ {i : Nat} {v : V}, vs[i]? = some v → ∃ rk, rks[i]? = some rk ∧ RowAt H v rk
  | v :: _, r :: _, ⟨h, _⟩, 0, _, e => by cases e; exact ⟨r, rfl, h⟩
  | _ :: _, _ :: _, ⟨_, h⟩, i + 1, _, e => h.get (i := i) e
theorem RowsAt.len {H : Hp} : ∀ {vs : List V} {rks : List RowK}, RowsAt H vs rks → vs.length = rks.length
  | [], [], _ => rfl
  | _ :: _, _ :: _, ⟨_, h⟩ => congrArg (· + 1) h.len
theorem RowsAt.mono {H H' : Hp} (F : ∀ b o, H b = some o → H' b = some o) : ∀ {vs : List V} {rks : List RowK}, RowsAt H vs rks → RowsAt H' vs rks
  | [], [], _ => trivial
  | _ :: _, _ :: _, ⟨h, h'⟩ => ⟨h.mono F, h'.mono F⟩
def spStore (K : PySem.W.Frag) : Sp := fun vs H Q _ => ∃ (rc : Addr) (xs : List V) (rks : List RowK), vs = [.ref rc] ∧ H rc = some (.lst xs) ∧ RowsAt H xs rks ∧ rks.length ≤ 1000 ∧
  ∀ (r : Addr) (H' : Hp), Sep H [] H' [(2, r, .dK (stFold [] rks))] → Q (.ref r) H'
section
variable {P : Program} {w : World} {K : PySem.W.Frag} {mg : Str → Option Value} {base : Heap}
abbrev s_store_of : Stmt := (topS 1)
theorem sc_store_of : FnScope ["record", "found", "kind", "rest", "word", "what"] ["record"] (defScope s_store_of) := ⟨rfl, rfl, rfl, by decide +kernel, rfl, by decide +kernel, by decide +kernel⟩
theorem ok_store_of {f : Addr} {fd : FuncData} (F : L2.Fun K "store_of" "store_of" s_store_of f fd) : FnOk P w K mg base CX0 1 f fd ["record"] (spStore K) := by
  refine F.ok sc_store_of (fun vs H Q E h => ?_) (fun cdv A outer s H0 vs Q E hr h => ?_)
  · obtain ⟨rc, xs, rks, rfl, hrc, hrows, hl, k⟩ := h
    rfl
  · obtain ⟨rc, xs, rks, rfl, hrc, hrows, hl, k⟩ := h
    have hu := hu_of hr
    have S : Sep H0 [] H0 [(0, rc, .lst xs)] := Sep.of0.add 0 hrc (fun _ z => nomatch z) (fun z => by cases z) (fun z => by cases z)
    refine ⟨_, pss_cons (ps_set (i := 1) sc_store_of.nd rfl (.inl rfl) (pe_dnewK))
      (pss_cons (ps_for PassesOwn.never rfl (pi_listK K (pv 0)) (pg_star K 1 rfl (pgs_cons (pg_name (i := 2) sc_store_of.nd rfl (Or.inl rfl)) (pgs_star (pg_name (i := 3) sc_store_of.nd rfl (Or.inl rfl))))) (pss_one (ps_if (pt_cmpR op_eq (pv 2) (pe_str) (nomark _)) (pss_cons (ps_asg (pe_ix (ix_listK K) (pv 3) (pe_un un_neg (pe_int)) (fun _ _ => rfl)) (pg_star K 1 rfl (pgs_cons (pg_name (i := 4) sc_store_of.nd rfl (Or.inl rfl)) (pgs_star (pg_name (i := 5) sc_store_of.nd rfl (Or.inl rfl))))))
      (pss_cons (ps_if (pt_cmpR op_eq (pv 4) (pe_str) (nomark _)) (pss_one (ps_dput1 hu (pv 1) (pe_ix (ix_listK K) (pv 5) (pe_int) (fun _ _ => rfl)) (pe_op op_add (pe_dg2 hu (pv 1) (pe_ix (ix_listK K) (pv 5) (pe_int) (fun _ _ => rfl)) (pe_int) ⟨rfl, rfl, rfl, rfl⟩) (pe_ix (ix_listK K) (pv 5) (pe_int) (fun _ _ => rfl))) rfl)) (pss_nil))
      (pss_one (ps_if (pt_cmpR op_eq (pv 4) (pe_str) (nomark _)) (pss_one (ps_dput1 hu (pv 1) (pe_ix (ix_listK K) (pv 5) (pe_int) (fun _ _ => rfl)) (pe_ix (ix_listK K) (pv 5) (pe_int) (fun _ _ => rfl)) rfl)) (pss_nil))))) (pss_nil))))
      (pss_one (ps_ret (pv 1)))), ?_⟩
    rw [show start ["record", "found", "kind", "rest", "word", "what"] [V.ref rc] = [some (V.ref rc), none, none, none, none, none] from rfl]
    try dsimp only [tSeq, tAsg, gName, tOp, tUn, tCB, tCons, tNil, tCall, tMethK1, tCallK1, tPar3, tRet, tRetN, tDrop, tTest, tB, tC, tNext, tAugS, tAug, sFld1, sFldAug1, tMeth1, tMake, tMakeK1, tSl, tPart, tNoPart, sDPut1, tDPop, tBM, tBM0, tPar, gSub, tChain, tNot, tNotV, tDG1, tDG2, tDNewT1, iKeys1, iEnum1, iList1, iTup1, iRng1, iRng2, List.set_cons_zero, List.set_cons_succ]
    refine x_dnew S (fun D1 H S => ?_)
    try dsimp only [tSeq, tAsg, gName, tOp, tUn, tCB, tCons, tNil, tCall, tMethK1, tCallK1, tPar3, tRet, tRetN, tDrop, tTest, tB, tC, tNext, tAugS, tAug, sFld1, sFldAug1, tMeth1, tMake, tMakeK1, tSl, tPart, tNoPart, sDPut1, tDPop, tBM, tBM0, tPar, gSub, tChain, tNot, tNotV, tDG1, tDG2, tDNewT1, iKeys1, iEnum1, iList1, iTup1, iRng1, iRng2, List.set_cons_zero, List.set_cons_succ]
    refine x_for ?_
    try dsimp only [tOp, tUn, tCB, tCons, tNil, tCall, tMethK1, tCallK1, tC, tMeth1, tMake, tMakeK1, tSl, tPart, tNoPart, tDPop, tChain, tNotV, tBM, tBM0, tDG1, tDG2, tDNewT1, iKeys1, iEnum1, iList1, iTup1, iRng1, iRng2]
    refine x_var (by exact rfl) ?_
    refine x_ilist S 1 (by exact rfl) ?_
    refine forW (walk_list (xs := xs)) (fun i σ H1 => ∃ (q1 q2 q3 q4 : Option V) (u : Unit), σ = [some (.ref rc), some (.ref D1), q1, q2, q3, q4] ∧ Sep H0 [] H1 [(2, D1, .dK (stFold [] (rks.take i))), (0, rc, .lst xs)]) ?_ ?_ ?_ ?_
    · exact ⟨_, _, _, _, (), rfl, S⟩
    · rintro i σ H hi ⟨q1, q2, q3, q4, u, rfl, S⟩
      exact S.sl 1 rfl
    · rintro i y σ H H9 hi ⟨q1, q2, q3, q4, u, rfl, S⟩ hy
      obtain ⟨rfl, hy⟩ := hy
      obtain ⟨rk, hrk, hrow⟩ := hrows.get hy
      have hkl := len_fold (rks.take i) (kvs := [])
      have hks := stFold_ok (rks.take i) IntsS.nil
      rw [List.length_take, List.length_nil] at hkl
      cases rk with
      | add k9 n9 =>
        obtain ⟨r, x, a, b, c, rfl, hr1, hx1⟩ := hrow
        refine x_star S (.of (S.fr _ _ hr1 (by simp))) (by simp) (fun rs H S => ?_)
        refine ⟨_, _, rfl, _, _, rfl, rfl, ?_⟩
        try dsimp only [tSeq, tAsg, gName, tOp, tUn, tCB, tCons, tNil, tCall, tMethK1, tCallK1, tPar3, tRet, tRetN, tDrop, tTest, tB, tC, tNext, tAugS, tAug, sFld1, sFldAug1, tMeth1, tMake, tMakeK1, tSl, tPart, tNoPart, sDPut1, tDPop, tBM, tBM0, tPar, gSub, tChain, tNot, tNotV, tDG1, tDG2, tDNewT1, iKeys1, iEnum1, iList1, iTup1, iRng1, iRng2, List.set_cons_zero, List.set_cons_succ]
        try dsimp only [tSeq, tAsg, gName, tOp, tUn, tCB, tCons, tNil, tCall, tMethK1, tCallK1, tPar3, tRet, tRetN, tDrop, tTest, tB, tC, tNext, tAugS, tAug, sFld1, sFldAug1, tMeth1, tMake, tMakeK1, tSl, tPart, tNoPart, sDPut1, tDPop, tBM, tBM0, tPar, gSub, tChain, tNot, tNotV, tDG1, tDG2, tDNewT1, iKeys1, iEnum1, iList1, iTup1, iRng1, iRng2, List.set_cons_zero, List.set_cons_succ]
        refine x_if ?_
        try dsimp only [tSeq, tAsg, gName, tOp, tUn, tCB, tCons, tNil, tCall, tMethK1, tCallK1, tPar3, tRet, tRetN, tDrop, tTest, tB, tC, tNext, tAugS, tAug, sFld1, sFldAug1, tMeth1, tMake, tMakeK1, tSl, tPart, tNoPart, sDPut1, tDPop, tBM, tBM0, tPar, gSub, tChain, tNot, tNotV, tDG1, tDG2, tDNewT1, iKeys1, iEnum1, iList1, iTup1, iRng1, iRng2, List.set_cons_zero, List.set_cons_succ]
        refine x_var (by exact rfl) ?_
        refine x_eq ?_
        refine ⟨_, rfl, ?_⟩
        refine ited (fun c1 => ?_) (fun c1 => ?_)
        · try dsimp only [tSeq, tAsg, gName, tOp, tUn, tCB, tCons, tNil, tCall, tMethK1, tCallK1, tPar3, tRet, tRetN, tDrop, tTest, tB, tC, tNext, tAugS, tAug, sFld1, sFldAug1, tMeth1, tMake, tMakeK1, tSl, tPart, tNoPart, sDPut1, tDPop, tBM, tBM0, tPar, gSub, tChain, tNot, tNotV, tDG1, tDG2, tDNewT1, iKeys1, iEnum1, iList1, iTup1, iRng1, iRng2, List.set_cons_zero, List.set_cons_succ]
          refine x_var (by exact rfl) ?_
          refine x_U ?_
          refine x_ixF S 0 (by exact rfl) (by exact (by exact rfl)) ?_
          refine x_star S (.of (S.fr _ _ hx1 (by simp))) (by simp) (fun wh H S => ?_)
          refine ⟨_, _, rfl, _, _, rfl, rfl, ?_⟩
          try dsimp only [tSeq, tAsg, gName, tOp, tUn, tCB, tCons, tNil, tCall, tMethK1, tCallK1, tPar3, tRet, tRetN, tDrop, tTest, tB, tC, tNext, tAugS, tAug, sFld1, sFldAug1, tMeth1, tMake, tMakeK1, tSl, tPart, tNoPart, sDPut1, tDPop, tBM, tBM0, tPar, gSub, tChain, tNot, tNotV, tDG1, tDG2, tDNewT1, iKeys1, iEnum1, iList1, iTup1, iRng1, iRng2, List.set_cons_zero, List.set_cons_succ]
          refine x_if ?_
          try dsimp only [tSeq, tAsg, gName, tOp, tUn, tCB, tCons, tNil, tCall, tMethK1, tCallK1, tPar3, tRet, tRetN, tDrop, tTest, tB, tC, tNext, tAugS, tAug, sFld1, sFldAug1, tMeth1, tMake, tMakeK1, tSl, tPart, tNoPart, sDPut1, tDPop, tBM, tBM0, tPar, gSub, tChain, tNot, tNotV, tDG1, tDG2, tDNewT1, iKeys1, iEnum1, iList1, iTup1, iRng1, iRng2, List.set_cons_zero, List.set_cons_succ]
          refine x_var (by exact rfl) ?_
          refine x_eq ?_
          refine ⟨_, rfl, ?_⟩
          refine ited (fun c2 => ?_) (fun c2 => ?_)
          · try dsimp only [tSeq, tAsg, gName, tOp, tUn, tCB, tCons, tNil, tCall, tMethK1, tCallK1, tPar3, tRet, tRetN, tDrop, tTest, tB, tC, tNext, tAugS, tAug, sFld1, sFldAug1, tMeth1, tMake, tMakeK1, tSl, tPart, tNoPart, sDPut1, tDPop, tBM, tBM0, tPar, gSub, tChain, tNot, tNotV, tDG1, tDG2, tDNewT1, iKeys1, iEnum1, iList1, iTup1, iRng1, iRng2, List.set_cons_zero, List.set_cons_succ]
            refine x_var (by exact rfl) ?_
            refine x_isD S 2 (by exact rfl) ?_
            refine x_var (by exact rfl) ?_
            refine x_ixF S 0 (by exact rfl) (by exact (by exact rfl)) ?_
            refine x_dg (k := Sum.inr _) S 2 (by exact rfl) (fun ngt1 => ?_) (fun vgt1 egt1 => ?_)
            · refine x_var (by exact rfl) ?_
              refine x_ixF S 0 (by exact rfl) (by exact (by exact rfl)) ?_
              refine x_I0 ?_
              refine x_var (by exact rfl) ?_
              refine x_var (by exact rfl) ?_
              refine x_ixF S 0 (by exact rfl) (by exact (by exact rfl)) ?_
              refine x_dput (k := Sum.inr _) S 2 (by exact rfl) (by omega) (fun H S => ?_)
              simp only [List.set_cons_zero, List.set_cons_succ] at S
              try dsimp only [tSeq, tAsg, gName, tOp, tUn, tCB, tCons, tNil, tCall, tMethK1, tCallK1, tPar3, tRet, tRetN, tDrop, tTest, tB, tC, tNext, tAugS, tAug, sFld1, sFldAug1, tMeth1, tMake, tMakeK1, tSl, tPart, tNoPart, sDPut1, tDPop, tBM, tBM0, tPar, gSub, tChain, tNot, tNotV, tDG1, tDG2, tDNewT1, iKeys1, iEnum1, iList1, iTup1, iRng1, iRng2, List.set_cons_zero, List.set_cons_succ]
              refine x_if ?_
              try dsimp only [tSeq, tAsg, gName, tOp, tUn, tCB, tCons, tNil, tCall, tMethK1, tCallK1, tPar3, tRet, tRetN, tDrop, tTest, tB, tC, tNext, tAugS, tAug, sFld1, sFldAug1, tMeth1, tMake, tMakeK1, tSl, tPart, tNoPart, sDPut1, tDPop, tBM, tBM0, tPar, gSub, tChain, tNot, tNotV, tDG1, tDG2, tDNewT1, iKeys1, iEnum1, iList1, iTup1, iRng1, iRng2, List.set_cons_zero, List.set_cons_succ]
              refine x_var (by exact rfl) ?_
              refine x_eq ?_
              refine ⟨_, rfl, ?_⟩
              refine ited (fun c3 => ?_) (fun c3 => ?_)
              · exact absurd (V.str.inj c3) (by decide +kernel)
              · first | rw [show (0 : Int) + n9 = getI (stFold [] (rks.take i)) k9 + n9 by rw [getI_none (by assumption)]] at S | rw [← hgi] at S
                refine ⟨_, _, _, _, (), rfl, ?_⟩
                rw [take_snoc hrk, stFold_snoc]
                exact S.sub [2, 3]
            · obtain ⟨z9, rfl⟩ := hks.val egt1
              have hgi := getI_some egt1
              refine x_var (by exact rfl) ?_
              refine x_ixF S 0 (by exact rfl) (by exact (by exact rfl)) ?_
              refine x_I0 ?_
              refine x_var (by exact rfl) ?_
              refine x_var (by exact rfl) ?_
              refine x_ixF S 0 (by exact rfl) (by exact (by exact rfl)) ?_
              refine x_dput (k := Sum.inr _) S 2 (by exact rfl) (by omega) (fun H S => ?_)
              simp only [List.set_cons_zero, List.set_cons_succ] at S
              try dsimp only [tSeq, tAsg, gName, tOp, tUn, tCB, tCons, tNil, tCall, tMethK1, tCallK1, tPar3, tRet, tRetN, tDrop, tTest, tB, tC, tNext, tAugS, tAug, sFld1, sFldAug1, tMeth1, tMake, tMakeK1, tSl, tPart, tNoPart, sDPut1, tDPop, tBM, tBM0, tPar, gSub, tChain, tNot, tNotV, tDG1, tDG2, tDNewT1, iKeys1, iEnum1, iList1, iTup1, iRng1, iRng2, List.set_cons_zero, List.set_cons_succ]
              refine x_if ?_
              try dsimp only [tSeq, tAsg, gName, tOp, tUn, tCB, tCons, tNil, tCall, tMethK1, tCallK1, tPar3, tRet, tRetN, tDrop, tTest, tB, tC, tNext, tAugS, tAug, sFld1, sFldAug1, tMeth1, tMake, tMakeK1, tSl, tPart, tNoPart, sDPut1, tDPop, tBM, tBM0, tPar, gSub, tChain, tNot, tNotV, tDG1, tDG2, tDNewT1, iKeys1, iEnum1, iList1, iTup1, iRng1, iRng2, List.set_cons_zero, List.set_cons_succ]
              refine x_var (by exact rfl) ?_
              refine x_eq ?_
              refine ⟨_, rfl, ?_⟩
              refine ited (fun c4 => ?_) (fun c4 => ?_)
              · exact absurd (V.str.inj c4) (by decide +kernel)
              · first | rw [show (0 : Int) + n9 = getI (stFold [] (rks.take i)) k9 + n9 by rw [getI_none (by assumption)]] at S | rw [← hgi] at S
                refine ⟨_, _, _, _, (), rfl, ?_⟩
                rw [take_snoc hrk, stFold_snoc]
                exact S.sub [2, 3]
          · exact absurd rfl c2
        · exact absurd rfl c1
      | put k9 n9 =>
        obtain ⟨r, x, a, b, c, rfl, hr1, hx1⟩ := hrow
        refine x_star S (.of (S.fr _ _ hr1 (by simp))) (by simp) (fun rs H S => ?_)
        refine ⟨_, _, rfl, _, _, rfl, rfl, ?_⟩
        try dsimp only [tSeq, tAsg, gName, tOp, tUn, tCB, tCons, tNil, tCall, tMethK1, tCallK1, tPar3, tRet, tRetN, tDrop, tTest, tB, tC, tNext, tAugS, tAug, sFld1, sFldAug1, tMeth1, tMake, tMakeK1, tSl, tPart, tNoPart, sDPut1, tDPop, tBM, tBM0, tPar, gSub, tChain, tNot, tNotV, tDG1, tDG2, tDNewT1, iKeys1, iEnum1, iList1, iTup1, iRng1, iRng2, List.set_cons_zero, List.set_cons_succ]
        try dsimp only [tSeq, tAsg, gName, tOp, tUn, tCB, tCons, tNil, tCall, tMethK1, tCallK1, tPar3, tRet, tRetN, tDrop, tTest, tB, tC, tNext, tAugS, tAug, sFld1, sFldAug1, tMeth1, tMake, tMakeK1, tSl, tPart, tNoPart, sDPut1, tDPop, tBM, tBM0, tPar, gSub, tChain, tNot, tNotV, tDG1, tDG2, tDNewT1, iKeys1, iEnum1, iList1, iTup1, iRng1, iRng2, List.set_cons_zero, List.set_cons_succ]
        refine x_if ?_
        try dsimp only [tSeq, tAsg, gName, tOp, tUn, tCB, tCons, tNil, tCall, tMethK1, tCallK1, tPar3, tRet, tRetN, tDrop, tTest, tB, tC, tNext, tAugS, tAug, sFld1, sFldAug1, tMeth1, tMake, tMakeK1, tSl, tPart, tNoPart, sDPut1, tDPop, tBM, tBM0, tPar, gSub, tChain, tNot, tNotV, tDG1, tDG2, tDNewT1, iKeys1, iEnum1, iList1, iTup1, iRng1, iRng2, List.set_cons_zero, List.set_cons_succ]
        refine x_var (by exact rfl) ?_
        refine x_eq ?_
        refine ⟨_, rfl, ?_⟩
        refine ited (fun c5 => ?_) (fun c5 => ?_)
        · try dsimp only [tSeq, tAsg, gName, tOp, tUn, tCB, tCons, tNil, tCall, tMethK1, tCallK1, tPar3, tRet, tRetN, tDrop, tTest, tB, tC, tNext, tAugS, tAug, sFld1, sFldAug1, tMeth1, tMake, tMakeK1, tSl, tPart, tNoPart, sDPut1, tDPop, tBM, tBM0, tPar, gSub, tChain, tNot, tNotV, tDG1, tDG2, tDNewT1, iKeys1, iEnum1, iList1, iTup1, iRng1, iRng2, List.set_cons_zero, List.set_cons_succ]
          refine x_var (by exact rfl) ?_
          refine x_U ?_
          refine x_ixF S 0 (by exact rfl) (by exact (by exact rfl)) ?_
          refine x_star S (.of (S.fr _ _ hx1 (by simp))) (by simp) (fun wh H S => ?_)
          refine ⟨_, _, rfl, _, _, rfl, rfl, ?_⟩
          try dsimp only [tSeq, tAsg, gName, tOp, tUn, tCB, tCons, tNil, tCall, tMethK1, tCallK1, tPar3, tRet, tRetN, tDrop, tTest, tB, tC, tNext, tAugS, tAug, sFld1, sFldAug1, tMeth1, tMake, tMakeK1, tSl, tPart, tNoPart, sDPut1, tDPop, tBM, tBM0, tPar, gSub, tChain, tNot, tNotV, tDG1, tDG2, tDNewT1, iKeys1, iEnum1, iList1, iTup1, iRng1, iRng2, List.set_cons_zero, List.set_cons_succ]
          refine x_if ?_
          try dsimp only [tSeq, tAsg, gName, tOp, tUn, tCB, tCons, tNil, tCall, tMethK1, tCallK1, tPar3, tRet, tRetN, tDrop, tTest, tB, tC, tNext, tAugS, tAug, sFld1, sFldAug1, tMeth1, tMake, tMakeK1, tSl, tPart, tNoPart, sDPut1, tDPop, tBM, tBM0, tPar, gSub, tChain, tNot, tNotV, tDG1, tDG2, tDNewT1, iKeys1, iEnum1, iList1, iTup1, iRng1, iRng2, List.set_cons_zero, List.set_cons_succ]
          refine x_var (by exact rfl) ?_
          refine x_eq ?_
          refine ⟨_, rfl, ?_⟩
          refine ited (fun c6 => ?_) (fun c6 => ?_)
          · exact absurd (V.str.inj c6) (by decide +kernel)
          · try dsimp only [tSeq, tAsg, gName, tOp, tUn, tCB, tCons, tNil, tCall, tMethK1, tCallK1, tPar3, tRet, tRetN, tDrop, tTest, tB, tC, tNext, tAugS, tAug, sFld1, sFldAug1, tMeth1, tMake, tMakeK1, tSl, tPart, tNoPart, sDPut1, tDPop, tBM, tBM0, tPar, gSub, tChain, tNot, tNotV, tDG1, tDG2, tDNewT1, iKeys1, iEnum1, iList1, iTup1, iRng1, iRng2, List.set_cons_zero, List.set_cons_succ]
            refine x_if ?_
            try dsimp only [tSeq, tAsg, gName, tOp, tUn, tCB, tCons, tNil, tCall, tMethK1, tCallK1, tPar3, tRet, tRetN, tDrop, tTest, tB, tC, tNext, tAugS, tAug, sFld1, sFldAug1, tMeth1, tMake, tMakeK1, tSl, tPart, tNoPart, sDPut1, tDPop, tBM, tBM0, tPar, gSub, tChain, tNot, tNotV, tDG1, tDG2, tDNewT1, iKeys1, iEnum1, iList1, iTup1, iRng1, iRng2, List.set_cons_zero, List.set_cons_succ]
            refine x_var (by exact rfl) ?_
            refine x_eq ?_
            refine ⟨_, rfl, ?_⟩
            refine ited (fun c7 => ?_) (fun c7 => ?_)
            · try dsimp only [tSeq, tAsg, gName, tOp, tUn, tCB, tCons, tNil, tCall, tMethK1, tCallK1, tPar3, tRet, tRetN, tDrop, tTest, tB, tC, tNext, tAugS, tAug, sFld1, sFldAug1, tMeth1, tMake, tMakeK1, tSl, tPart, tNoPart, sDPut1, tDPop, tBM, tBM0, tPar, gSub, tChain, tNot, tNotV, tDG1, tDG2, tDNewT1, iKeys1, iEnum1, iList1, iTup1, iRng1, iRng2, List.set_cons_zero, List.set_cons_succ]
              refine x_var (by exact rfl) ?_
              refine x_ixF S 0 (by exact rfl) (by exact (by exact rfl)) ?_
              refine x_var (by exact rfl) ?_
              refine x_var (by exact rfl) ?_
              refine x_ixF S 0 (by exact rfl) (by exact (by exact rfl)) ?_
              refine x_dput (k := Sum.inr _) S 2 (by exact rfl) (by omega) (fun H S => ?_)
              simp only [List.set_cons_zero, List.set_cons_succ] at S
              refine ⟨_, _, _, _, (), rfl, ?_⟩
              rw [take_snoc hrk, stFold_snoc]
              exact S.sub [2, 3]
            · exact absurd rfl c7
        · exact absurd rfl c5
      | oth =>
        obtain ⟨r, x, a, b, c, w9, ys, rfl, hr1, hx1, hw1, hw2⟩ := hrow
        refine x_star S (.of (S.fr _ _ hr1 (by simp))) (by simp) (fun rs H S => ?_)
        refine ⟨_, _, rfl, _, _, rfl, rfl, ?_⟩
        try dsimp only [tSeq, tAsg, gName, tOp, tUn, tCB, tCons, tNil, tCall, tMethK1, tCallK1, tPar3, tRet, tRetN, tDrop, tTest, tB, tC, tNext, tAugS, tAug, sFld1, sFldAug1, tMeth1, tMake, tMakeK1, tSl, tPart, tNoPart, sDPut1, tDPop, tBM, tBM0, tPar, gSub, tChain, tNot, tNotV, tDG1, tDG2, tDNewT1, iKeys1, iEnum1, iList1, iTup1, iRng1, iRng2, List.set_cons_zero, List.set_cons_succ]
        try dsimp only [tSeq, tAsg, gName, tOp, tUn, tCB, tCons, tNil, tCall, tMethK1, tCallK1, tPar3, tRet, tRetN, tDrop, tTest, tB, tC, tNext, tAugS, tAug, sFld1, sFldAug1, tMeth1, tMake, tMakeK1, tSl, tPart, tNoPart, sDPut1, tDPop, tBM, tBM0, tPar, gSub, tChain, tNot, tNotV, tDG1, tDG2, tDNewT1, iKeys1, iEnum1, iList1, iTup1, iRng1, iRng2, List.set_cons_zero, List.set_cons_succ]
        refine x_if ?_
        try dsimp only [tSeq, tAsg, gName, tOp, tUn, tCB, tCons, tNil, tCall, tMethK1, tCallK1, tPar3, tRet, tRetN, tDrop, tTest, tB, tC, tNext, tAugS, tAug, sFld1, sFldAug1, tMeth1, tMake, tMakeK1, tSl, tPart, tNoPart, sDPut1, tDPop, tBM, tBM0, tPar, gSub, tChain, tNot, tNotV, tDG1, tDG2, tDNewT1, iKeys1, iEnum1, iList1, iTup1, iRng1, iRng2, List.set_cons_zero, List.set_cons_succ]
        refine x_var (by exact rfl) ?_
        refine x_eq ?_
        refine ⟨_, rfl, ?_⟩
        refine ited (fun c8 => ?_) (fun c8 => ?_)
        · try dsimp only [tSeq, tAsg, gName, tOp, tUn, tCB, tCons, tNil, tCall, tMethK1, tCallK1, tPar3, tRet, tRetN, tDrop, tTest, tB, tC, tNext, tAugS, tAug, sFld1, sFldAug1, tMeth1, tMake, tMakeK1, tSl, tPart, tNoPart, sDPut1, tDPop, tBM, tBM0, tPar, gSub, tChain, tNot, tNotV, tDG1, tDG2, tDNewT1, iKeys1, iEnum1, iList1, iTup1, iRng1, iRng2, List.set_cons_zero, List.set_cons_succ]
          refine x_var (by exact rfl) ?_
          refine x_U ?_
          refine x_ixF S 0 (by exact rfl) (by exact (by exact rfl)) ?_
          refine x_star S (.of (S.fr _ _ hx1 (by simp))) (by simp) (fun wh H S => ?_)
          refine ⟨_, _, rfl, _, _, rfl, rfl, ?_⟩
          try dsimp only [tSeq, tAsg, gName, tOp, tUn, tCB, tCons, tNil, tCall, tMethK1, tCallK1, tPar3, tRet, tRetN, tDrop, tTest, tB, tC, tNext, tAugS, tAug, sFld1, sFldAug1, tMeth1, tMake, tMakeK1, tSl, tPart, tNoPart, sDPut1, tDPop, tBM, tBM0, tPar, gSub, tChain, tNot, tNotV, tDG1, tDG2, tDNewT1, iKeys1, iEnum1, iList1, iTup1, iRng1, iRng2, List.set_cons_zero, List.set_cons_succ]
          refine x_if ?_
          try dsimp only [tSeq, tAsg, gName, tOp, tUn, tCB, tCons, tNil, tCall, tMethK1, tCallK1, tPar3, tRet, tRetN, tDrop, tTest, tB, tC, tNext, tAugS, tAug, sFld1, sFldAug1, tMeth1, tMake, tMakeK1, tSl, tPart, tNoPart, sDPut1, tDPop, tBM, tBM0, tPar, gSub, tChain, tNot, tNotV, tDG1, tDG2, tDNewT1, iKeys1, iEnum1, iList1, iTup1, iRng1, iRng2, List.set_cons_zero, List.set_cons_succ]
          refine x_var (by exact rfl) ?_
          refine x_eq ?_
          refine ⟨_, rfl, ?_⟩
          refine ited (fun c9 => ?_) (fun c9 => ?_)
          · exact absurd (V.str.inj c9) hw1
          · try dsimp only [tSeq, tAsg, gName, tOp, tUn, tCB, tCons, tNil, tCall, tMethK1, tCallK1, tPar3, tRet, tRetN, tDrop, tTest, tB, tC, tNext, tAugS, tAug, sFld1, sFldAug1, tMeth1, tMake, tMakeK1, tSl, tPart, tNoPart, sDPut1, tDPop, tBM, tBM0, tPar, gSub, tChain, tNot, tNotV, tDG1, tDG2, tDNewT1, iKeys1, iEnum1, iList1, iTup1, iRng1, iRng2, List.set_cons_zero, List.set_cons_succ]
            refine x_if ?_
            try dsimp only [tSeq, tAsg, gName, tOp, tUn, tCB, tCons, tNil, tCall, tMethK1, tCallK1, tPar3, tRet, tRetN, tDrop, tTest, tB, tC, tNext, tAugS, tAug, sFld1, sFldAug1, tMeth1, tMake, tMakeK1, tSl, tPart, tNoPart, sDPut1, tDPop, tBM, tBM0, tPar, gSub, tChain, tNot, tNotV, tDG1, tDG2, tDNewT1, iKeys1, iEnum1, iList1, iTup1, iRng1, iRng2, List.set_cons_zero, List.set_cons_succ]
            refine x_var (by exact rfl) ?_
            refine x_eq ?_
            refine ⟨_, rfl, ?_⟩
            refine ited (fun c10 => ?_) (fun c10 => ?_)
            · exact absurd (V.str.inj c10) hw2
            · refine ⟨_, _, _, _, (), rfl, ?_⟩
              rw [take_snoc hrk, stFold_snoc]
              exact S.sub [2, 3]
        · exact absurd rfl c8
      | non =>
        obtain ⟨r, kd, ys, rfl, hr1, hkd⟩ := hrow
        refine x_star S (.of (S.fr _ _ hr1 (by simp))) (by simp) (fun rs H S => ?_)
        refine ⟨_, _, rfl, _, _, rfl, rfl, ?_⟩
        try dsimp only [tSeq, tAsg, gName, tOp, tUn, tCB, tCons, tNil, tCall, tMethK1, tCallK1, tPar3, tRet, tRetN, tDrop, tTest, tB, tC, tNext, tAugS, tAug, sFld1, sFldAug1, tMeth1, tMake, tMakeK1, tSl, tPart, tNoPart, sDPut1, tDPop, tBM, tBM0, tPar, gSub, tChain, tNot, tNotV, tDG1, tDG2, tDNewT1, iKeys1, iEnum1, iList1, iTup1, iRng1, iRng2, List.set_cons_zero, List.set_cons_succ]
        try dsimp only [tSeq, tAsg, gName, tOp, tUn, tCB, tCons, tNil, tCall, tMethK1, tCallK1, tPar3, tRet, tRetN, tDrop, tTest, tB, tC, tNext, tAugS, tAug, sFld1, sFldAug1, tMeth1, tMake, tMakeK1, tSl, tPart, tNoPart, sDPut1, tDPop, tBM, tBM0, tPar, gSub, tChain, tNot, tNotV, tDG1, tDG2, tDNewT1, iKeys1, iEnum1, iList1, iTup1, iRng1, iRng2, List.set_cons_zero, List.set_cons_succ]
        refine x_if ?_
        try dsimp only [tSeq, tAsg, gName, tOp, tUn, tCB, tCons, tNil, tCall, tMethK1, tCallK1, tPar3, tRet, tRetN, tDrop, tTest, tB, tC, tNext, tAugS, tAug, sFld1, sFldAug1, tMeth1, tMake, tMakeK1, tSl, tPart, tNoPart, sDPut1, tDPop, tBM, tBM0, tPar, gSub, tChain, tNot, tNotV, tDG1, tDG2, tDNewT1, iKeys1, iEnum1, iList1, iTup1, iRng1, iRng2, List.set_cons_zero, List.set_cons_succ]
        refine x_var (by exact rfl) ?_
        refine x_eq ?_
        refine ⟨_, rfl, ?_⟩
        refine ited (fun c11 => ?_) (fun c11 => ?_)
        · exact absurd (V.str.inj c11) hkd
        · refine ⟨_, _, _, _, (), rfl, ?_⟩
          rw [take_snoc hrk, stFold_snoc]
          exact S.sub [1, 2]
    · rintro σ H ⟨q1, q2, q3, q4, u, rfl, S⟩
      try dsimp only [tSeq, tAsg, gName, tOp, tUn, tCB, tCons, tNil, tCall, tMethK1, tCallK1, tPar3, tRet, tRetN, tDrop, tTest, tB, tC, tNext, tAugS, tAug, sFld1, sFldAug1, tMeth1, tMake, tMakeK1, tSl, tPart, tNoPart, sDPut1, tDPop, tBM, tBM0, tPar, gSub, tChain, tNot, tNotV, tDG1, tDG2, tDNewT1, iKeys1, iEnum1, iList1, iTup1, iRng1, iRng2, List.set_cons_zero, List.set_cons_succ]
      try dsimp only [tSeq, tAsg, gName, tOp, tUn, tCB, tCons, tNil, tCall, tMethK1, tCallK1, tPar3, tRet, tRetN, tDrop, tTest, tB, tC, tNext, tAugS, tAug, sFld1, sFldAug1, tMeth1, tMake, tMakeK1, tSl, tPart, tNoPart, sDPut1, tDPop, tBM, tBM0, tPar, gSub, tChain, tNot, tNotV, tDG1, tDG2, tDNewT1, iKeys1, iEnum1, iList1, iTup1, iRng1, iRng2, List.set_cons_zero, List.set_cons_succ]
      refine x_var (by exact rfl) ?_
      rw [hrows.len, List.take_length] at S
      exact k _ _ (S.sub [0])
end
end G

set_option linter.all false
set_option maxRecDepth 100000
set_option maxHeartbeats 4000000
namespace G
open PySem PySem.Spec PyProof.Rows L2

def spLaw (K : PySem.W.Frag) : Sp := fun vs H Q _ => ∃ (a : Addr) (ns : List Int), vs = [.ref a] ∧ SqL K H a (ns.map V.int) ∧ ns.length ≤ 63 ∧ ∀ H', Q (.bl true) H'

def RowsIn (L : List Cell) : List V → List RowK → Prop
  | [], [] => True
  | v :: vs, r :: rs => RowIn L v r ∧ RowsIn L vs rs
  | _, _ => False
theorem RowsIn.get {L : List Cell} : ∀ {vs : List V} {rks : List RowK}, RowsIn L vs rks → ∀ {i : Nat} {v : V}, vs[i]? = some v → ∃ rk, rks[i]? = some rk ∧ RowIn L v rk
  | v :: _, r :: _, ⟨h, _⟩, 0, _, e => by cases e; exact ⟨r, rfl, h⟩
  | _ :: _, _ :: _, ⟨_, h⟩, i + 1, _, e => h.get (i := i) e
theorem RowsIn.len {L : List Cell} : ∀ {vs : List V} {rks : List RowK}, RowsIn L vs rks → vs.length = rks.length
  | [], [], _ => rfl
  | _ :: _, _ :: _, ⟨_, h⟩ => congrArg (· + 1) h.len
theorem RowsIn.mono {L L' : List Cell} (F : ∀ c ∈ L, c ∈ L') : ∀ {vs : List V} {rks : List RowK}, RowsIn L vs rks → RowsIn L' vs rks
  | [], [], _ => trivial
  | _ :: _, _ :: _, ⟨h, h'⟩ => ⟨h.mono F, h'.mono F⟩
theorem RowsIn.snoc {L : List Cell} {v : V} {rk : RowK} (hr : RowIn L v rk) : ∀ {vs : List V} {rks : List RowK}, RowsIn L vs rks → RowsIn L (vs ++ [v]) (rks ++ [rk])
  | [], [], _ => ⟨hr, trivial⟩
  | _ :: _, _ :: _, ⟨h, h'⟩ => ⟨h, h'.snoc hr⟩
theorem RowsIn.at {H0 H : Hp} {ft : List Addr} {l L : List Cell} (S : Sep H0 ft H l) (hL : ∀ c ∈ L, c ∈ l) : ∀ {vs : List V} {rks : List RowK}, RowsIn L vs rks → RowsAt H vs rks
  | [], [], _ => trivial
  | _ :: _, _ :: _, ⟨h, h'⟩ => ⟨h.at S hL, h'.at S hL⟩
section
variable {P : Program} {w : World} {K : PySem.W.Frag} {mg : Str → Option Value} {base : Heap}
abbrev s_law : Stmt := (topS 9)
theorem sc_law : FnScope ["_law_script", "_law_draw", "_law_turn", "_law_keys", "_law_sheet", "_law_due", "_law_row_here", "_law_again", "_law_found", "_law_k", "_law_key"] ["_law_script"] (defScope s_law) := ⟨rfl, rfl, rfl, by decide +kernel, rfl, by decide +kernel, by decide +kernel⟩
theorem ok_law {f : Addr} {fd : FuncData} (F : L2.Fun K "law" "law" s_law f fd) (cbegun : Cal P w K mg base CX0 1 "_law_begun" (spBegun K)) (ctake : Cal P w K mg base CX0 1 "_law_take" spLTake) (cnames : Cal P w K mg base CX0 3 "_law_names" (spNames K)) (crow : Cal P w K mg base CX0 4 "_law_row" spRow) (cstore : CalK P w K mg base CX0 1 "store_of" ["record"] [0] (spStore K)) (z_range : mg "range" = none) (z_list : mg "list" = none) (z_isinstance : mg "isinstance" = none) (z_dict : mg "dict" = none) (z_bool : mg "bool" = none) (z_int : mg "int" = none) : FnOk P w K mg base CX0 5 f fd ["_law_script"] (spLaw K) := by
  refine F.ok sc_law (fun vs H Q E h => ?_) (fun cdv A outer s H0 vs Q E hr h => ?_)
  · obtain ⟨a, ns, rfl, hs, hl, k⟩ := h
    rfl
  · obtain ⟨a, ns, rfl, hs, hl, k⟩ := h
    have hu := hu_of hr
    have S := Sep.of0 (H := H0)
    refine ⟨_, pss_cons (ps_set (i := 1) sc_law.nd rfl (.inr rfl) (pe_c cbegun hr (by decide) (by rfl) pass0 (pa_cons (pv 0) pa_nil)))
      (pss_cons (ps_for PassesOwn.never rfl (pi_range1 (by rfl) z_range (pa_cons (pe_int) pa_nil)) (pg_name (i := 2) sc_law.nd rfl (.inl rfl)) (pss_cons (ps_set (i := 3) sc_law.nd rfl (.inr rfl) (pe_c cnames hr (by decide) (by rfl) pass0 (pa_cons (pv 1) (pa_cons (pe_op op_add (pe_int) (pe_c ctake hr (by decide) (by rfl) pass0 (pa_cons (pv 1) (pa_cons (pe_int) pa_nil)))) pa_nil))))
      (pss_cons (ps_setLc (i := 4) (own := [("_law_k", 9)]) (g := gName 9) rfl sc_law.nd rfl rfl (sw_true rfl rfl rfl (by decide +kernel)) (pi_range1 (by rfl) z_range (pa_cons (pe_c ctake hr (by decide) (by rfl) pass0 (pa_cons (pv 1) (pa_cons (pe_int) pa_nil))) pa_nil)) (blkOk_by (N := ["_law_script", "_law_draw", "_law_turn", "_law_keys", "_law_sheet", "_law_due", "_law_row_here", "_law_again", "_law_found", "_law_k", "_law_key"]) (sc := defScope s_law) (by decide +kernel)) (fun _ _ _ _ _ => pg_name (i := 9) sc_law.nd rfl (Or.inl rfl)) (fun _ _ _ _ _ => pts_nil) (fun _ _ _ _ _ => pe_c crow hr (by decide) (by rfl) pass0 (pa_cons (pv 1) (pa_cons (pv 3) pa_nil))))
      (pss_cons (ps_set (i := 5) sc_law.nd rfl (.inl rfl) (pe_dnewK))
      (pss_cons (ps_for PassesOwn.never rfl (pi_listK K (pv 4)) (pg_name (i := 6) sc_law.nd rfl (.inl rfl)) (pss_cons (ps_if ((pw_and (pt_cmpR op_eq (pe_ix (ix_tupK K) (pv 6) (pe_int) (fun _ _ => rfl)) (pe_str) (nomark _)) (pw_and1 (pt_cmpR op_eq (pe_ix (ix_tupK K) (pe_ix (ix_tupK K) (pv 6) (pe_int) (fun _ _ => rfl)) (pe_int) (fun _ _ => rfl)) (pe_str) (nomark _)))).pt) (pss_one (ps_dput1 hu (pv 5) (pe_ix (ix_tupK K) (pe_ix (ix_tupK K) (pv 6) (pe_int) (fun _ _ => rfl)) (pe_int) (fun _ _ => rfl)) (pe_op op_add (pe_dg2 hu (pv 5) (pe_ix (ix_tupK K) (pe_ix (ix_tupK K) (pv 6) (pe_int) (fun _ _ => rfl)) (pe_int) (fun _ _ => rfl)) (pe_int) ⟨rfl, rfl, rfl, rfl⟩) (pe_ix (ix_tupK K) (pe_ix (ix_tupK K) (pv 6) (pe_int) (fun _ _ => rfl)) (pe_int) (fun _ _ => rfl))) rfl)) (pss_nil))
      (pss_one (ps_if ((pw_and (pt_cmpR op_eq (pe_ix (ix_tupK K) (pv 6) (pe_int) (fun _ _ => rfl)) (pe_str) (nomark _)) (pw_and1 (pt_cmpR op_eq (pe_ix (ix_tupK K) (pe_ix (ix_tupK K) (pv 6) (pe_int) (fun _ _ => rfl)) (pe_int) (fun _ _ => rfl)) (pe_str) (nomark _)))).pt) (pss_one (ps_dput1 hu (pv 5) (pe_ix (ix_tupK K) (pe_ix (ix_tupK K) (pv 6) (pe_int) (fun _ _ => rfl)) (pe_int) (fun _ _ => rfl)) (pe_ix (ix_tupK K) (pe_ix (ix_tupK K) (pv 6) (pe_int) (fun _ _ => rfl)) (pe_int) (fun _ _ => rfl)) rfl)) (pss_nil)))))
      (pss_one (ps_for PassesOwn.never rfl (pi_range1 (by rfl) z_range (pa_cons (pe_int) pa_nil)) (pg_name (i := 7) sc_law.nd rfl (.inl rfl)) (pss_cons (ps_set (i := 8) sc_law.nd rfl (.inr rfl) (pe_ck cstore hr (by decide) (by rfl) pass0 (pk_cons (pe_callTy (cl_listK K) (by rfl) z_list (by decide +kernel) (pa_cons (pv 4) pa_nil)) pk_nil)))
      (pss_cons (ps_if ((pw_or (pt_not (pt_val (pe_callB (cl_isiK K) (by rfl) z_isinstance (by decide +kernel) (pa_cons (pv 8) (pa_cons (pe_bltn (v := .ty "dict") (by rfl) z_dict (by decide +kernel) rfl) pa_nil))))) (pw_or1 (pt_cmpR (op_ne_dictA (Nat.lt_of_succ_lt hu)) (pv 8) (pv 5) (nomark _)))).pt) (pss_one (ps_never)) (pss_nil))
      (pss_cons (ps_if (pt_cmpR (op_neDK K hr.units) (pe_lock (pe_lc (own := [("_law_key", 10)]) (g := gName 10) rfl sc_law.nd (pi_keys1 (pv 8)) (blkOk_by (N := ["_law_script", "_law_draw", "_law_turn", "_law_keys", "_law_sheet", "_law_due", "_law_row_here", "_law_again", "_law_found", "_law_k", "_law_key"]) (sc := defScope s_law) (by decide +kernel)) (fun _ _ _ _ _ => pg_name (i := 10) sc_law.nd rfl (.inl rfl)) (fun _ _ _ _ _ => pts_one ((pw_or (pt_val (pe_callB (cl_isiK K) (by rfl) z_isinstance (by decide +kernel) (pa_cons (pe_dget1v hu (pv 8) (pv 10) (fun _ _ => rfl)) (pa_cons (pe_bltn (v := .ty "bool") (by rfl) z_bool (by decide +kernel) rfl) pa_nil)))) (pw_or1 (pt_not (pt_val (pe_callB (cl_isiK K) (by rfl) z_isinstance (by decide +kernel) (pa_cons (pe_dget1v hu (pv 8) (pv 10) (fun _ _ => rfl)) (pa_cons (pe_bltn (v := .ty "int") (by rfl) z_int (by decide +kernel) rfl) pa_nil))))))).pt)) (fun _ _ _ _ _ => pe_never))) (pe_lst1 pa_nil) (nomark _)) (pss_one (ps_never)) (pss_nil))
      (pss_one (ps_dput1 hu (pv 8) (pe_str) (pe_int) rfl))))))))))))
      (pss_one (ps_ret (pe_bl)))), ?_⟩
    rw [show start ["_law_script", "_law_draw", "_law_turn", "_law_keys", "_law_sheet", "_law_due", "_law_row_here", "_law_again", "_law_found", "_law_k", "_law_key"] [V.ref a] = [some (V.ref a), none, none, none, none, none, none, none, none, none, none] from rfl]
    try dsimp only [tSeq, tAsg, gName, tOp, tUn, tCB, tCons, tNil, tCall, tMethK1, tCallK1, tPar3, tRet, tRetN, tDrop, tTest, tB, tC, tNext, tAugS, tAug, sFld1, sFldAug1, tMeth1, tMake, tMakeK1, tSl, tPart, tNoPart, sDPut1, tDPop, tBM, tBM0, tPar, gSub, tChain, tNot, tNotV, tDG1, tDG2, tDNewT1, iKeys1, iEnum1, iList1, iTup1, iRng1, iRng2, List.set_cons_zero, List.set_cons_succ]
    refine x_var (by exact rfl) ?_
    refine ⟨_, ns, rfl, hs, by omega, fun dp dg dc gs cs H hd S => ?_⟩
    try dsimp only [tSeq, tAsg, gName, tOp, tUn, tCB, tCons, tNil, tCall, tMethK1, tCallK1, tPar3, tRet, tRetN, tDrop, tTest, tB, tC, tNext, tAugS, tAug, sFld1, sFldAug1, tMeth1, tMake, tMakeK1, tSl, tPart, tNoPart, sDPut1, tDPop, tBM, tBM0, tPar, gSub, tChain, tNot, tNotV, tDG1, tDG2, tDNewT1, iKeys1, iEnum1, iList1, iTup1, iRng1, iRng2, List.set_cons_zero, List.set_cons_succ]
    refine x_for ?_
    try dsimp only [tOp, tUn, tCB, tCons, tNil, tCall, tMethK1, tCallK1, tC, tMeth1, tMake, tMakeK1, tSl, tPart, tNoPart, tDPop, tChain, tNotV, tBM, tBM0, tDG1, tDG2, tDNewT1, iKeys1, iEnum1, iList1, iTup1, iRng1, iRng2]
    refine ⟨_, rfl, by omega, by omega, ?_⟩
    refine forR (fun i σ H1 => ∃ (dr dt dm : Int) (gs : List Int) (q1 q2 q3 q4 q5 q6 q7 : Option V), σ = [some (.ref a), some (.ref dp), q1, q2, q3, q4, q5, q6, q7, none, none] ∧ Drw dr dt dm gs ∧ Sep H0 [] H1 [(2, dp, .dK (R_drw dg dc dr dt dm)), (2, dg, .lst (gs.map V.int)), (2, dc, .lst (cs.map V.int))]) ?_ ?_ ?_
    · exact ⟨_, _, _, _, _, _, _, _, _, _, _, rfl, hd, S⟩
    · rintro i σ H hi ⟨dr, dt, dm, gs, q1, q2, q3, q4, q5, q6, q7, rfl, hd, S⟩
      try dsimp only [tSeq, tAsg, gName, tOp, tUn, tCB, tCons, tNil, tCall, tMethK1, tCallK1, tPar3, tRet, tRetN, tDrop, tTest, tB, tC, tNext, tAugS, tAug, sFld1, sFldAug1, tMeth1, tMake, tMakeK1, tSl, tPart, tNoPart, sDPut1, tDPop, tBM, tBM0, tPar, gSub, tChain, tNot, tNotV, tDG1, tDG2, tDNewT1, iKeys1, iEnum1, iList1, iTup1, iRng1, iRng2, List.set_cons_zero, List.set_cons_succ]
      try dsimp only [tSeq, tAsg, gName, tOp, tUn, tCB, tCons, tNil, tCall, tMethK1, tCallK1, tPar3, tRet, tRetN, tDrop, tTest, tB, tC, tNext, tAugS, tAug, sFld1, sFldAug1, tMeth1, tMake, tMakeK1, tSl, tPart, tNoPart, sDPut1, tDPop, tBM, tBM0, tPar, gSub, tChain, tNot, tNotV, tDG1, tDG2, tDNewT1, iKeys1, iEnum1, iList1, iTup1, iRng1, iRng2, List.set_cons_zero, List.set_cons_succ]
      refine x_var (by exact rfl) ?_
      refine x_var (by exact rfl) ?_
      refine c_ltake S 0 1 2 (by exact rfl) (by exact rfl) (by exact rfl) hd (by first | omega | decide | (simp only [len_insAt, List.length_map, List.length_append, List.length_cons, List.length_nil, List.length_take, List.length_drop] at *; omega)) (by first | omega | decide | (simp only [len_insAt, List.length_map, List.length_append, List.length_cons, List.length_nil, List.length_take, List.length_drop] at *; omega)) (fun v1 dr dt dm gs H v1a v1b hd S => ?_)
      simp only [List.set_cons_zero, List.set_cons_succ] at S
      refine x_I0 ?_
      refine ⟨_, _, _, _, _, _, _, _, _, rfl, S.pre [(1, 0), (1, 1), (0, 2)], hd, by omega, by omega, fun ss nm dr dt dm gs H hsl hss hd S9 => ?_⟩
      have S := S.call (H' := H) 1 [(0, 2, dp, .dK (R_drw dg dc dr dt dm)), (1, 2, dg, .lst (gs.map V.int))] ⟨⟨_, rfl, .inr rfl⟩, ⟨_, rfl, .inr rfl⟩, trivial⟩ (by show List.Nodup [0, 1]; decide) S9
      dsimp only [List.take_succ_cons, List.take_zero, List.drop_succ_cons, List.drop_zero, List.cons_append, List.nil_append, List.append_nil, List.foldl, List.set_cons_zero, List.set_cons_succ] at S
      try dsimp only [tSeq, tAsg, gName, tOp, tUn, tCB, tCons, tNil, tCall, tMethK1, tCallK1, tPar3, tRet, tRetN, tDrop, tTest, tB, tC, tNext, tAugS, tAug, sFld1, sFldAug1, tMeth1, tMake, tMakeK1, tSl, tPart, tNoPart, sDPut1, tDPop, tBM, tBM0, tPar, gSub, tChain, tNot, tNotV, tDG1, tDG2, tDNewT1, iKeys1, iEnum1, iList1, iTup1, iRng1, iRng2, List.set_cons_zero, List.set_cons_succ]
      refine x_lc ?_
      try dsimp only [tOp, tUn, tCB, tCons, tNil, tCall, tMethK1, tCallK1, tC, tMeth1, tMake, tMakeK1, tSl, tPart, tNoPart, tDPop, tChain, tNotV, tBM, tBM0, tDG1, tDG2, tDNewT1, iKeys1, iEnum1, iList1, iTup1, iRng1, iRng2]
      refine x_var (by exact rfl) ?_
      refine c_ltake S 1 2 3 (by exact rfl) (by exact rfl) (by exact rfl) hd (by first | omega | decide | (simp only [len_insAt, List.length_map, List.length_append, List.length_cons, List.length_nil, List.length_take, List.length_drop] at *; omega)) (by first | omega | decide | (simp only [len_insAt, List.length_map, List.length_append, List.length_cons, List.length_nil, List.length_take, List.length_drop] at *; omega)) (fun v2 dr dt dm gs H v2a v2b hd S => ?_)
      simp only [List.set_cons_zero, List.set_cons_succ] at S
      refine ⟨_, rfl, by omega, by omega, ?_⟩
      refine lcR S (fun sh1 H S => ⟨fun j H1 => ∃ (vs : List V) (rks : List RowK) (L : List Cell) (dr dt dm : Int) (gs : List Int), vs.length = j ∧ RowsIn L vs rks ∧ Drw dr dt dm gs ∧ Sep H0 [] H1 ((2, sh1, .lst vs) :: (2, nm, .lst (ss.map V.str)) :: (2, dp, .dK (R_drw dg dc dr dt dm)) :: (2, dg, .lst (gs.map V.int)) :: (2, dc, .lst (cs.map V.int)) :: L), ?_, ?_, ?_⟩)
      · exact ⟨[], [], [], _, _, _, _, rfl, trivial, hd, S.sub [0, 1, 2, 3, 4]⟩
      · rintro j H hi ⟨vs, rks, L, dr, dt, dm, gs, hvl, hrows, hd, S⟩
        refine ⟨rfl, ?_⟩
        try dsimp only [wipe, tYes, tSeq, tAsg, gName, tOp, tUn, tCB, tCons, tNil, tCall, tMethK1, tCallK1, tPar3, tRet, tRetN, tDrop, tTest, tB, tC, tNext, tAugS, tAug, sFld1, sFldAug1, tMeth1, tMake, tMakeK1, tSl, tPart, tNoPart, sDPut1, tDPop, tBM, tBM0, tPar, gSub, tChain, tNot, tNotV, tDG1, tDG2, tDNewT1, iKeys1, iEnum1, iList1, iTup1, iRng1, iRng2, List.set_cons_zero, List.set_cons_succ]
        refine iteT ?_
        refine x_var (by exact rfl) ?_
        refine x_var (by exact rfl) ?_
        refine ⟨_, _, _, _, _, _, _, _, _, _, rfl, S.pre [(1, 2), (1, 3), (0, 4), (0, 1)], hd, by omega, by omega, fun v rk M dr dt dm gs H hM hrk hd S9 => ?_⟩
        have S := S.callM (H' := H) (m := M) [(2, 2, dp, .dK (R_drw dg dc dr dt dm)), (3, 2, dg, .lst (gs.map V.int))] ⟨⟨_, rfl, .inr rfl⟩, ⟨_, rfl, .inr rfl⟩, trivial⟩ (by show List.Nodup [2, 3]; decide) S9 hM
        simp only [List.foldl, List.set_cons_zero, List.set_cons_succ] at S
        have S := S.tail 5
        dsimp only [List.take_succ_cons, List.take_zero, List.drop_succ_cons, List.drop_zero, List.cons_append, List.nil_append, List.append_nil, List.foldl, List.set_cons_zero, List.set_cons_succ] at S
        refine x_lcapp S 0 (by exact rfl) (by omega) (fun H S => ?_)
        simp only [List.set_cons_zero, List.set_cons_succ] at S
        exact ⟨vs ++ [v], rks ++ [rk], M ++ L, _, _, _, _, by rw [List.length_append, hvl]; rfl, (hrows.mono (fun c hc => List.mem_append_right _ hc)).snoc (hrk.mono fun c hc => List.mem_append_left _ hc), hd, S⟩
      · rintro H ⟨vs, rks, L, dr, dt, dm, gs, hvl, hrows, hd, S⟩
        have hrl := hrows.len
        try dsimp only [tSeq, tAsg, gName, tOp, tUn, tCB, tCons, tNil, tCall, tMethK1, tCallK1, tPar3, tRet, tRetN, tDrop, tTest, tB, tC, tNext, tAugS, tAug, sFld1, sFldAug1, tMeth1, tMake, tMakeK1, tSl, tPart, tNoPart, sDPut1, tDPop, tBM, tBM0, tPar, gSub, tChain, tNot, tNotV, tDG1, tDG2, tDNewT1, iKeys1, iEnum1, iList1, iTup1, iRng1, iRng2, List.set_cons_zero, List.set_cons_succ]
        try dsimp only [tSeq, tAsg, gName, tOp, tUn, tCB, tCons, tNil, tCall, tMethK1, tCallK1, tPar3, tRet, tRetN, tDrop, tTest, tB, tC, tNext, tAugS, tAug, sFld1, sFldAug1, tMeth1, tMake, tMakeK1, tSl, tPart, tNoPart, sDPut1, tDPop, tBM, tBM0, tPar, gSub, tChain, tNot, tNotV, tDG1, tDG2, tDNewT1, iKeys1, iEnum1, iList1, iTup1, iRng1, iRng2, List.set_cons_zero, List.set_cons_succ]
        refine x_dnew S (fun D1 H S => ?_)
        try dsimp only [tSeq, tAsg, gName, tOp, tUn, tCB, tCons, tNil, tCall, tMethK1, tCallK1, tPar3, tRet, tRetN, tDrop, tTest, tB, tC, tNext, tAugS, tAug, sFld1, sFldAug1, tMeth1, tMake, tMakeK1, tSl, tPart, tNoPart, sDPut1, tDPop, tBM, tBM0, tPar, gSub, tChain, tNot, tNotV, tDG1, tDG2, tDNewT1, iKeys1, iEnum1, iList1, iTup1, iRng1, iRng2, List.set_cons_zero, List.set_cons_succ]
        refine x_for ?_
        try dsimp only [tOp, tUn, tCB, tCons, tNil, tCall, tMethK1, tCallK1, tC, tMeth1, tMake, tMakeK1, tSl, tPart, tNoPart, tDPop, tChain, tNotV, tBM, tBM0, tDG1, tDG2, tDNewT1, iKeys1, iEnum1, iList1, iTup1, iRng1, iRng2]
        refine x_var (by exact rfl) ?_
        refine x_ilist S 1 (by exact rfl) ?_
        refine forW (walk_list (xs := vs)) (fun j σ H1 => ∃ (q5 : Option V) (u : Unit), σ = [some (.ref a), some (.ref dp), some (.int (0 + (i : Nat))), some (.ref nm), some (.ref sh1), some (.ref D1), q5, q6, q7, none, none] ∧ Sep H0 [] H1 ((2, D1, .dK (stFold [] (rks.take j))) :: (2, sh1, .lst vs) :: (2, nm, .lst (ss.map V.str)) :: (2, dp, .dK (R_drw dg dc dr dt dm)) :: (2, dg, .lst (gs.map V.int)) :: (2, dc, .lst (cs.map V.int)) :: L)) ?_ ?_ ?_ ?_
        · exact ⟨_, (), rfl, S⟩
        · rintro j σ H hi ⟨q5, u, rfl, S⟩
          exact S.sl 1 rfl
        · rintro j y σ H H9 hi ⟨q5, u, rfl, S⟩ hy
          obtain ⟨rfl, hy⟩ := hy
          obtain ⟨rk, hrk, hrow⟩ := hrows.get hy
          have hkl := len_fold (rks.take j) (kvs := [])
          have hks := stFold_ok (rks.take j) IntsS.nil
          rw [List.length_take, List.length_nil] at hkl
          cases rk with
          | add k9 n9 =>
            obtain ⟨r, x, a1, b1, c1x, rfl, hr1, hx1⟩ := hrow
            try dsimp only [tSeq, tAsg, gName, tOp, tUn, tCB, tCons, tNil, tCall, tMethK1, tCallK1, tPar3, tRet, tRetN, tDrop, tTest, tB, tC, tNext, tAugS, tAug, sFld1, sFldAug1, tMeth1, tMake, tMakeK1, tSl, tPart, tNoPart, sDPut1, tDPop, tBM, tBM0, tPar, gSub, tChain, tNot, tNotV, tDG1, tDG2, tDNewT1, iKeys1, iEnum1, iList1, iTup1, iRng1, iRng2, List.set_cons_zero, List.set_cons_succ]
            try dsimp only [tSeq, tAsg, gName, tOp, tUn, tCB, tCons, tNil, tCall, tMethK1, tCallK1, tPar3, tRet, tRetN, tDrop, tTest, tB, tC, tNext, tAugS, tAug, sFld1, sFldAug1, tMeth1, tMake, tMakeK1, tSl, tPart, tNoPart, sDPut1, tDPop, tBM, tBM0, tPar, gSub, tChain, tNot, tNotV, tDG1, tDG2, tDNewT1, iKeys1, iEnum1, iList1, iTup1, iRng1, iRng2, List.set_cons_zero, List.set_cons_succ]
            refine x_if ?_
            try dsimp only [tSeq, tAsg, gName, tOp, tUn, tCB, tCons, tNil, tCall, tMethK1, tCallK1, tPar3, tRet, tRetN, tDrop, tTest, tB, tC, tNext, tAugS, tAug, sFld1, sFldAug1, tMeth1, tMake, tMakeK1, tSl, tPart, tNoPart, sDPut1, tDPop, tBM, tBM0, tPar, gSub, tChain, tNot, tNotV, tDG1, tDG2, tDNewT1, iKeys1, iEnum1, iList1, iTup1, iRng1, iRng2, List.set_cons_zero, List.set_cons_succ]
            refine x_and ?_
            try dsimp only [tSeq, tAsg, gName, tOp, tUn, tCB, tCons, tNil, tCall, tMethK1, tCallK1, tPar3, tRet, tRetN, tDrop, tTest, tB, tC, tNext, tAugS, tAug, sFld1, sFldAug1, tMeth1, tMake, tMakeK1, tSl, tPart, tNoPart, sDPut1, tDPop, tBM, tBM0, tPar, gSub, tChain, tNot, tNotV, tDG1, tDG2, tDNewT1, iKeys1, iEnum1, iList1, iTup1, iRng1, iRng2, List.set_cons_zero, List.set_cons_succ]
            refine x_var (by exact rfl) ?_
            refine x_ixTf (S.cellT 6 hr1) (by first | exact (by exact rfl) | exact at0) ?_
            refine x_eq ?_
            refine ⟨_, rfl, ?_⟩
            refine ited (fun c1 => ?_) (fun c1 => ?_)
            · refine x_var (by exact rfl) ?_
              refine x_ixTf (S.cellT 6 hr1) (by first | exact (by exact rfl) | exact at0) ?_
              refine x_ixTf (S.cellT 6 hx1) (by first | exact (by exact rfl) | exact at0) ?_
              refine x_eq ?_
              refine ⟨_, rfl, ?_⟩
              refine ited (fun c2 => ?_) (fun c2 => ?_)
              · try dsimp only [tSeq, tAsg, gName, tOp, tUn, tCB, tCons, tNil, tCall, tMethK1, tCallK1, tPar3, tRet, tRetN, tDrop, tTest, tB, tC, tNext, tAugS, tAug, sFld1, sFldAug1, tMeth1, tMake, tMakeK1, tSl, tPart, tNoPart, sDPut1, tDPop, tBM, tBM0, tPar, gSub, tChain, tNot, tNotV, tDG1, tDG2, tDNewT1, iKeys1, iEnum1, iList1, iTup1, iRng1, iRng2, List.set_cons_zero, List.set_cons_succ]
                refine x_var (by exact rfl) ?_
                refine x_isD S 0 (by exact rfl) ?_
                refine x_var (by exact rfl) ?_
                refine x_ixTf (S.cellT 6 hr1) (by first | exact (by exact rfl) | exact at0) ?_
                refine x_ixTf (S.cellT 6 hx1) (by first | exact (by exact rfl) | exact at0) ?_
                refine x_dg (k := Sum.inr _) S 0 (by exact rfl) (fun ngt1 => ?_) (fun vgt1 egt1 => ?_)
                · refine x_var (by exact rfl) ?_
                  refine x_ixTf (S.cellT 6 hr1) (by first | exact (by exact rfl) | exact at0) ?_
                  refine x_ixTf (S.cellT 6 hx1) (by first | exact (by exact rfl) | exact at0) ?_
                  refine x_I0 ?_
                  refine x_var (by exact rfl) ?_
                  refine x_var (by exact rfl) ?_
                  refine x_ixTf (S.cellT 6 hr1) (by first | exact (by exact rfl) | exact at0) ?_
                  refine x_ixTf (S.cellT 6 hx1) (by first | exact (by exact rfl) | exact at0) ?_
                  refine x_dput (k := Sum.inr _) S 0 (by exact rfl) (by omega) (fun H S => ?_)
                  simp only [List.set_cons_zero, List.set_cons_succ] at S
                  try dsimp only [tSeq, tAsg, gName, tOp, tUn, tCB, tCons, tNil, tCall, tMethK1, tCallK1, tPar3, tRet, tRetN, tDrop, tTest, tB, tC, tNext, tAugS, tAug, sFld1, sFldAug1, tMeth1, tMake, tMakeK1, tSl, tPart, tNoPart, sDPut1, tDPop, tBM, tBM0, tPar, gSub, tChain, tNot, tNotV, tDG1, tDG2, tDNewT1, iKeys1, iEnum1, iList1, iTup1, iRng1, iRng2, List.set_cons_zero, List.set_cons_succ]
                  refine x_if ?_
                  try dsimp only [tSeq, tAsg, gName, tOp, tUn, tCB, tCons, tNil, tCall, tMethK1, tCallK1, tPar3, tRet, tRetN, tDrop, tTest, tB, tC, tNext, tAugS, tAug, sFld1, sFldAug1, tMeth1, tMake, tMakeK1, tSl, tPart, tNoPart, sDPut1, tDPop, tBM, tBM0, tPar, gSub, tChain, tNot, tNotV, tDG1, tDG2, tDNewT1, iKeys1, iEnum1, iList1, iTup1, iRng1, iRng2, List.set_cons_zero, List.set_cons_succ]
                  refine x_and ?_
                  try dsimp only [tSeq, tAsg, gName, tOp, tUn, tCB, tCons, tNil, tCall, tMethK1, tCallK1, tPar3, tRet, tRetN, tDrop, tTest, tB, tC, tNext, tAugS, tAug, sFld1, sFldAug1, tMeth1, tMake, tMakeK1, tSl, tPart, tNoPart, sDPut1, tDPop, tBM, tBM0, tPar, gSub, tChain, tNot, tNotV, tDG1, tDG2, tDNewT1, iKeys1, iEnum1, iList1, iTup1, iRng1, iRng2, List.set_cons_zero, List.set_cons_succ]
                  refine x_var (by exact rfl) ?_
                  refine x_ixTf (S.cellT 6 hr1) (by first | exact (by exact rfl) | exact at0) ?_
                  refine x_eq ?_
                  refine ⟨_, rfl, ?_⟩
                  refine ited (fun c3 => ?_) (fun c3 => ?_)
                  · refine x_var (by exact rfl) ?_
                    refine x_ixTf (S.cellT 6 hr1) (by first | exact (by exact rfl) | exact at0) ?_
                    refine x_ixTf (S.cellT 6 hx1) (by first | exact (by exact rfl) | exact at0) ?_
                    refine x_eq ?_
                    refine ⟨_, rfl, ?_⟩
                    refine ited (fun c4 => ?_) (fun c4 => ?_)
                    · exact absurd (V.str.inj c4) (by decide +kernel)
                    · first | rw [show (0 : Int) + n9 = getI (stFold [] (rks.take j)) k9 + n9 by rw [getI_none (by assumption)]] at S | rw [← hgi] at S
                      refine ⟨_, (), rfl, ?_⟩
                      rw [take_snoc hrk, stFold_snoc]
                      exact S
                  · exact absurd rfl c3
                · obtain ⟨z9, rfl⟩ := hks.val egt1
                  have hgi := getI_some egt1
                  refine x_var (by exact rfl) ?_
                  refine x_ixTf (S.cellT 6 hr1) (by first | exact (by exact rfl) | exact at0) ?_
                  refine x_ixTf (S.cellT 6 hx1) (by first | exact (by exact rfl) | exact at0) ?_
                  refine x_I0 ?_
                  refine x_var (by exact rfl) ?_
                  refine x_var (by exact rfl) ?_
                  refine x_ixTf (S.cellT 6 hr1) (by first | exact (by exact rfl) | exact at0) ?_
                  refine x_ixTf (S.cellT 6 hx1) (by first | exact (by exact rfl) | exact at0) ?_
                  refine x_dput (k := Sum.inr _) S 0 (by exact rfl) (by omega) (fun H S => ?_)
                  simp only [List.set_cons_zero, List.set_cons_succ] at S
                  try dsimp only [tSeq, tAsg, gName, tOp, tUn, tCB, tCons, tNil, tCall, tMethK1, tCallK1, tPar3, tRet, tRetN, tDrop, tTest, tB, tC, tNext, tAugS, tAug, sFld1, sFldAug1, tMeth1, tMake, tMakeK1, tSl, tPart, tNoPart, sDPut1, tDPop, tBM, tBM0, tPar, gSub, tChain, tNot, tNotV, tDG1, tDG2, tDNewT1, iKeys1, iEnum1, iList1, iTup1, iRng1, iRng2, List.set_cons_zero, List.set_cons_succ]
                  refine x_if ?_
                  try dsimp only [tSeq, tAsg, gName, tOp, tUn, tCB, tCons, tNil, tCall, tMethK1, tCallK1, tPar3, tRet, tRetN, tDrop, tTest, tB, tC, tNext, tAugS, tAug, sFld1, sFldAug1, tMeth1, tMake, tMakeK1, tSl, tPart, tNoPart, sDPut1, tDPop, tBM, tBM0, tPar, gSub, tChain, tNot, tNotV, tDG1, tDG2, tDNewT1, iKeys1, iEnum1, iList1, iTup1, iRng1, iRng2, List.set_cons_zero, List.set_cons_succ]
                  refine x_and ?_
                  try dsimp only [tSeq, tAsg, gName, tOp, tUn, tCB, tCons, tNil, tCall, tMethK1, tCallK1, tPar3, tRet, tRetN, tDrop, tTest, tB, tC, tNext, tAugS, tAug, sFld1, sFldAug1, tMeth1, tMake, tMakeK1, tSl, tPart, tNoPart, sDPut1, tDPop, tBM, tBM0, tPar, gSub, tChain, tNot, tNotV, tDG1, tDG2, tDNewT1, iKeys1, iEnum1, iList1, iTup1, iRng1, iRng2, List.set_cons_zero, List.set_cons_succ]
                  refine x_var (by exact rfl) ?_
                  refine x_ixTf (S.cellT 6 hr1) (by first | exact (by exact rfl) | exact at0) ?_
                  refine x_eq ?_
                  refine ⟨_, rfl, ?_⟩
                  refine ited (fun c5 => ?_) (fun c5 => ?_)
                  · refine x_var (by exact rfl) ?_
                    refine x_ixTf (S.cellT 6 hr1) (by first | exact (by exact rfl) | exact at0) ?_
                    refine x_ixTf (S.cellT 6 hx1) (by first | exact (by exact rfl) | exact at0) ?_
                    refine x_eq ?_
                    refine ⟨_, rfl, ?_⟩
                    refine ited (fun c6 => ?_) (fun c6 => ?_)
                    · exact absurd (V.str.inj c6) (by decide +kernel)
                    · first | rw [show (0 : Int) + n9 = getI (stFold [] (rks.take j)) k9 + n9 by rw [getI_none (by assumption)]] at S | rw [← hgi] at S
                      refine ⟨_, (), rfl, ?_⟩
                      rw [take_snoc hrk, stFold_snoc]
                      exact S
                  · exact absurd rfl c5
              · exact absurd rfl c2
            · exact absurd rfl c1
          | put k9 n9 =>
            obtain ⟨r, x, a1, b1, c1x, rfl, hr1, hx1⟩ := hrow
            try dsimp only [tSeq, tAsg, gName, tOp, tUn, tCB, tCons, tNil, tCall, tMethK1, tCallK1, tPar3, tRet, tRetN, tDrop, tTest, tB, tC, tNext, tAugS, tAug, sFld1, sFldAug1, tMeth1, tMake, tMakeK1, tSl, tPart, tNoPart, sDPut1, tDPop, tBM, tBM0, tPar, gSub, tChain, tNot, tNotV, tDG1, tDG2, tDNewT1, iKeys1, iEnum1, iList1, iTup1, iRng1, iRng2, List.set_cons_zero, List.set_cons_succ]
            try dsimp only [tSeq, tAsg, gName, tOp, tUn, tCB, tCons, tNil, tCall, tMethK1, tCallK1, tPar3, tRet, tRetN, tDrop, tTest, tB, tC, tNext, tAugS, tAug, sFld1, sFldAug1, tMeth1, tMake, tMakeK1, tSl, tPart, tNoPart, sDPut1, tDPop, tBM, tBM0, tPar, gSub, tChain, tNot, tNotV, tDG1, tDG2, tDNewT1, iKeys1, iEnum1, iList1, iTup1, iRng1, iRng2, List.set_cons_zero, List.set_cons_succ]
            refine x_if ?_
            try dsimp only [tSeq, tAsg, gName, tOp, tUn, tCB, tCons, tNil, tCall, tMethK1, tCallK1, tPar3, tRet, tRetN, tDrop, tTest, tB, tC, tNext, tAugS, tAug, sFld1, sFldAug1, tMeth1, tMake, tMakeK1, tSl, tPart, tNoPart, sDPut1, tDPop, tBM, tBM0, tPar, gSub, tChain, tNot, tNotV, tDG1, tDG2, tDNewT1, iKeys1, iEnum1, iList1, iTup1, iRng1, iRng2, List.set_cons_zero, List.set_cons_succ]
            refine x_and ?_
            try dsimp only [tSeq, tAsg, gName, tOp, tUn, tCB, tCons, tNil, tCall, tMethK1, tCallK1, tPar3, tRet, tRetN, tDrop, tTest, tB, tC, tNext, tAugS, tAug, sFld1, sFldAug1, tMeth1, tMake, tMakeK1, tSl, tPart, tNoPart, sDPut1, tDPop, tBM, tBM0, tPar, gSub, tChain, tNot, tNotV, tDG1, tDG2, tDNewT1, iKeys1, iEnum1, iList1, iTup1, iRng1, iRng2, List.set_cons_zero, List.set_cons_succ]
            refine x_var (by exact rfl) ?_
            refine x_ixTf (S.cellT 6 hr1) (by first | exact (by exact rfl) | exact at0) ?_
            refine x_eq ?_
            refine ⟨_, rfl, ?_⟩
            refine ited (fun c7 => ?_) (fun c7 => ?_)
            · refine x_var (by exact rfl) ?_
              refine x_ixTf (S.cellT 6 hr1) (by first | exact (by exact rfl) | exact at0) ?_
              refine x_ixTf (S.cellT 6 hx1) (by first | exact (by exact rfl) | exact at0) ?_
              refine x_eq ?_
              refine ⟨_, rfl, ?_⟩
              refine ited (fun c8 => ?_) (fun c8 => ?_)
              · exact absurd (V.str.inj c8) (by decide +kernel)
              · try dsimp only [tSeq, tAsg, gName, tOp, tUn, tCB, tCons, tNil, tCall, tMethK1, tCallK1, tPar3, tRet, tRetN, tDrop, tTest, tB, tC, tNext, tAugS, tAug, sFld1, sFldAug1, tMeth1, tMake, tMakeK1, tSl, tPart, tNoPart, sDPut1, tDPop, tBM, tBM0, tPar, gSub, tChain, tNot, tNotV, tDG1, tDG2, tDNewT1, iKeys1, iEnum1, iList1, iTup1, iRng1, iRng2, List.set_cons_zero, List.set_cons_succ]
                refine x_if ?_
                try dsimp only [tSeq, tAsg, gName, tOp, tUn, tCB, tCons, tNil, tCall, tMethK1, tCallK1, tPar3, tRet, tRetN, tDrop, tTest, tB, tC, tNext, tAugS, tAug, sFld1, sFldAug1, tMeth1, tMake, tMakeK1, tSl, tPart, tNoPart, sDPut1, tDPop, tBM, tBM0, tPar, gSub, tChain, tNot, tNotV, tDG1, tDG2, tDNewT1, iKeys1, iEnum1, iList1, iTup1, iRng1, iRng2, List.set_cons_zero, List.set_cons_succ]
                refine x_and ?_
                try dsimp only [tSeq, tAsg, gName, tOp, tUn, tCB, tCons, tNil, tCall, tMethK1, tCallK1, tPar3, tRet, tRetN, tDrop, tTest, tB, tC, tNext, tAugS, tAug, sFld1, sFldAug1, tMeth1, tMake, tMakeK1, tSl, tPart, tNoPart, sDPut1, tDPop, tBM, tBM0, tPar, gSub, tChain, tNot, tNotV, tDG1, tDG2, tDNewT1, iKeys1, iEnum1, iList1, iTup1, iRng1, iRng2, List.set_cons_zero, List.set_cons_succ]
                refine x_var (by exact rfl) ?_
                refine x_ixTf (S.cellT 6 hr1) (by first | exact (by exact rfl) | exact at0) ?_
                refine x_eq ?_
                refine ⟨_, rfl, ?_⟩
                refine ited (fun c9 => ?_) (fun c9 => ?_)
                · refine x_var (by exact rfl) ?_
                  refine x_ixTf (S.cellT 6 hr1) (by first | exact (by exact rfl) | exact at0) ?_
                  refine x_ixTf (S.cellT 6 hx1) (by first | exact (by exact rfl) | exact at0) ?_
                  refine x_eq ?_
                  refine ⟨_, rfl, ?_⟩
                  refine ited (fun c10 => ?_) (fun c10 => ?_)
                  · try dsimp only [tSeq, tAsg, gName, tOp, tUn, tCB, tCons, tNil, tCall, tMethK1, tCallK1, tPar3, tRet, tRetN, tDrop, tTest, tB, tC, tNext, tAugS, tAug, sFld1, sFldAug1, tMeth1, tMake, tMakeK1, tSl, tPart, tNoPart, sDPut1, tDPop, tBM, tBM0, tPar, gSub, tChain, tNot, tNotV, tDG1, tDG2, tDNewT1, iKeys1, iEnum1, iList1, iTup1, iRng1, iRng2, List.set_cons_zero, List.set_cons_succ]
                    refine x_var (by exact rfl) ?_
                    refine x_ixTf (S.cellT 6 hr1) (by first | exact (by exact rfl) | exact at0) ?_
                    refine x_ixTf (S.cellT 6 hx1) (by first | exact (by exact rfl) | exact at0) ?_
                    refine x_var (by exact rfl) ?_
                    refine x_var (by exact rfl) ?_
                    refine x_ixTf (S.cellT 6 hr1) (by first | exact (by exact rfl) | exact at0) ?_
                    refine x_ixTf (S.cellT 6 hx1) (by first | exact (by exact rfl) | exact at0) ?_
                    refine x_dput (k := Sum.inr _) S 0 (by exact rfl) (by omega) (fun H S => ?_)
                    simp only [List.set_cons_zero, List.set_cons_succ] at S
                    refine ⟨_, (), rfl, ?_⟩
                    rw [take_snoc hrk, stFold_snoc]
                    exact S
                  · exact absurd rfl c10
                · exact absurd rfl c9
            · exact absurd rfl c7
          | oth =>
            obtain ⟨r, x, a1, b1, c1x, w9, ys, rfl, hr1, hx1, hw1, hw2⟩ := hrow
            try dsimp only [tSeq, tAsg, gName, tOp, tUn, tCB, tCons, tNil, tCall, tMethK1, tCallK1, tPar3, tRet, tRetN, tDrop, tTest, tB, tC, tNext, tAugS, tAug, sFld1, sFldAug1, tMeth1, tMake, tMakeK1, tSl, tPart, tNoPart, sDPut1, tDPop, tBM, tBM0, tPar, gSub, tChain, tNot, tNotV, tDG1, tDG2, tDNewT1, iKeys1, iEnum1, iList1, iTup1, iRng1, iRng2, List.set_cons_zero, List.set_cons_succ]
            try dsimp only [tSeq, tAsg, gName, tOp, tUn, tCB, tCons, tNil, tCall, tMethK1, tCallK1, tPar3, tRet, tRetN, tDrop, tTest, tB, tC, tNext, tAugS, tAug, sFld1, sFldAug1, tMeth1, tMake, tMakeK1, tSl, tPart, tNoPart, sDPut1, tDPop, tBM, tBM0, tPar, gSub, tChain, tNot, tNotV, tDG1, tDG2, tDNewT1, iKeys1, iEnum1, iList1, iTup1, iRng1, iRng2, List.set_cons_zero, List.set_cons_succ]
            refine x_if ?_
            try dsimp only [tSeq, tAsg, gName, tOp, tUn, tCB, tCons, tNil, tCall, tMethK1, tCallK1, tPar3, tRet, tRetN, tDrop, tTest, tB, tC, tNext, tAugS, tAug, sFld1, sFldAug1, tMeth1, tMake, tMakeK1, tSl, tPart, tNoPart, sDPut1, tDPop, tBM, tBM0, tPar, gSub, tChain, tNot, tNotV, tDG1, tDG2, tDNewT1, iKeys1, iEnum1, iList1, iTup1, iRng1, iRng2, List.set_cons_zero, List.set_cons_succ]
            refine x_and ?_
            try dsimp only [tSeq, tAsg, gName, tOp, tUn, tCB, tCons, tNil, tCall, tMethK1, tCallK1, tPar3, tRet, tRetN, tDrop, tTest, tB, tC, tNext, tAugS, tAug, sFld1, sFldAug1, tMeth1, tMake, tMakeK1, tSl, tPart, tNoPart, sDPut1, tDPop, tBM, tBM0, tPar, gSub, tChain, tNot, tNotV, tDG1, tDG2, tDNewT1, iKeys1, iEnum1, iList1, iTup1, iRng1, iRng2, List.set_cons_zero, List.set_cons_succ]
            refine x_var (by exact rfl) ?_
            refine x_ixTf (S.cellT 6 hr1) (by first | exact (by exact rfl) | exact at0) ?_
            refine x_eq ?_
            refine ⟨_, rfl, ?_⟩
            refine ited (fun c11 => ?_) (fun c11 => ?_)
            · refine x_var (by exact rfl) ?_
              refine x_ixTf (S.cellT 6 hr1) (by first | exact (by exact rfl) | exact at0) ?_
              refine x_ixTf (S.cellT 6 hx1) (by first | exact (by exact rfl) | exact at0) ?_
              refine x_eq ?_
              refine ⟨_, rfl, ?_⟩
              refine ited (fun c12 => ?_) (fun c12 => ?_)
              · exact absurd (V.str.inj c12) hw1
              · try dsimp only [tSeq, tAsg, gName, tOp, tUn, tCB, tCons, tNil, tCall, tMethK1, tCallK1, tPar3, tRet, tRetN, tDrop, tTest, tB, tC, tNext, tAugS, tAug, sFld1, sFldAug1, tMeth1, tMake, tMakeK1, tSl, tPart, tNoPart, sDPut1, tDPop, tBM, tBM0, tPar, gSub, tChain, tNot, tNotV, tDG1, tDG2, tDNewT1, iKeys1, iEnum1, iList1, iTup1, iRng1, iRng2, List.set_cons_zero, List.set_cons_succ]
                refine x_if ?_
                try dsimp only [tSeq, tAsg, gName, tOp, tUn, tCB, tCons, tNil, tCall, tMethK1, tCallK1, tPar3, tRet, tRetN, tDrop, tTest, tB, tC, tNext, tAugS, tAug, sFld1, sFldAug1, tMeth1, tMake, tMakeK1, tSl, tPart, tNoPart, sDPut1, tDPop, tBM, tBM0, tPar, gSub, tChain, tNot, tNotV, tDG1, tDG2, tDNewT1, iKeys1, iEnum1, iList1, iTup1, iRng1, iRng2, List.set_cons_zero, List.set_cons_succ]
                refine x_and ?_
                try dsimp only [tSeq, tAsg, gName, tOp, tUn, tCB, tCons, tNil, tCall, tMethK1, tCallK1, tPar3, tRet, tRetN, tDrop, tTest, tB, tC, tNext, tAugS, tAug, sFld1, sFldAug1, tMeth1, tMake, tMakeK1, tSl, tPart, tNoPart, sDPut1, tDPop, tBM, tBM0, tPar, gSub, tChain, tNot, tNotV, tDG1, tDG2, tDNewT1, iKeys1, iEnum1, iList1, iTup1, iRng1, iRng2, List.set_cons_zero, List.set_cons_succ]
                refine x_var (by exact rfl) ?_
                refine x_ixTf (S.cellT 6 hr1) (by first | exact (by exact rfl) | exact at0) ?_
                refine x_eq ?_
                refine ⟨_, rfl, ?_⟩
                refine ited (fun c13 => ?_) (fun c13 => ?_)
                · refine x_var (by exact rfl) ?_
                  refine x_ixTf (S.cellT 6 hr1) (by first | exact (by exact rfl) | exact at0) ?_
                  refine x_ixTf (S.cellT 6 hx1) (by first | exact (by exact rfl) | exact at0) ?_
                  refine x_eq ?_
                  refine ⟨_, rfl, ?_⟩
                  refine ited (fun c14 => ?_) (fun c14 => ?_)
                  · exact absurd (V.str.inj c14) hw2
                  · refine ⟨_, (), rfl, ?_⟩
                    rw [take_snoc hrk, stFold_snoc]
                    exact S
                · exact absurd rfl c13
            · exact absurd rfl c11
          | non =>
            obtain ⟨r, kd, ys, rfl, hr1, hkd⟩ := hrow
            try dsimp only [tSeq, tAsg, gName, tOp, tUn, tCB, tCons, tNil, tCall, tMethK1, tCallK1, tPar3, tRet, tRetN, tDrop, tTest, tB, tC, tNext, tAugS, tAug, sFld1, sFldAug1, tMeth1, tMake, tMakeK1, tSl, tPart, tNoPart, sDPut1, tDPop, tBM, tBM0, tPar, gSub, tChain, tNot, tNotV, tDG1, tDG2, tDNewT1, iKeys1, iEnum1, iList1, iTup1, iRng1, iRng2, List.set_cons_zero, List.set_cons_succ]
            try dsimp only [tSeq, tAsg, gName, tOp, tUn, tCB, tCons, tNil, tCall, tMethK1, tCallK1, tPar3, tRet, tRetN, tDrop, tTest, tB, tC, tNext, tAugS, tAug, sFld1, sFldAug1, tMeth1, tMake, tMakeK1, tSl, tPart, tNoPart, sDPut1, tDPop, tBM, tBM0, tPar, gSub, tChain, tNot, tNotV, tDG1, tDG2, tDNewT1, iKeys1, iEnum1, iList1, iTup1, iRng1, iRng2, List.set_cons_zero, List.set_cons_succ]
            refine x_if ?_
            try dsimp only [tSeq, tAsg, gName, tOp, tUn, tCB, tCons, tNil, tCall, tMethK1, tCallK1, tPar3, tRet, tRetN, tDrop, tTest, tB, tC, tNext, tAugS, tAug, sFld1, sFldAug1, tMeth1, tMake, tMakeK1, tSl, tPart, tNoPart, sDPut1, tDPop, tBM, tBM0, tPar, gSub, tChain, tNot, tNotV, tDG1, tDG2, tDNewT1, iKeys1, iEnum1, iList1, iTup1, iRng1, iRng2, List.set_cons_zero, List.set_cons_succ]
            refine x_and ?_
            try dsimp only [tSeq, tAsg, gName, tOp, tUn, tCB, tCons, tNil, tCall, tMethK1, tCallK1, tPar3, tRet, tRetN, tDrop, tTest, tB, tC, tNext, tAugS, tAug, sFld1, sFldAug1, tMeth1, tMake, tMakeK1, tSl, tPart, tNoPart, sDPut1, tDPop, tBM, tBM0, tPar, gSub, tChain, tNot, tNotV, tDG1, tDG2, tDNewT1, iKeys1, iEnum1, iList1, iTup1, iRng1, iRng2, List.set_cons_zero, List.set_cons_succ]
            refine x_var (by exact rfl) ?_
            refine x_ixTf (S.cellT 6 hr1) (by first | exact (by exact rfl) | exact at0) ?_
            refine x_eq ?_
            refine ⟨_, rfl, ?_⟩
            refine ited (fun c15 => ?_) (fun c15 => ?_)
            · exact absurd (V.str.inj c15) hkd
            · refine iteF ?_
              try dsimp only [tSeq, tAsg, gName, tOp, tUn, tCB, tCons, tNil, tCall, tMethK1, tCallK1, tPar3, tRet, tRetN, tDrop, tTest, tB, tC, tNext, tAugS, tAug, sFld1, sFldAug1, tMeth1, tMake, tMakeK1, tSl, tPart, tNoPart, sDPut1, tDPop, tBM, tBM0, tPar, gSub, tChain, tNot, tNotV, tDG1, tDG2, tDNewT1, iKeys1, iEnum1, iList1, iTup1, iRng1, iRng2, List.set_cons_zero, List.set_cons_succ]
              refine x_if ?_
              try dsimp only [tSeq, tAsg, gName, tOp, tUn, tCB, tCons, tNil, tCall, tMethK1, tCallK1, tPar3, tRet, tRetN, tDrop, tTest, tB, tC, tNext, tAugS, tAug, sFld1, sFldAug1, tMeth1, tMake, tMakeK1, tSl, tPart, tNoPart, sDPut1, tDPop, tBM, tBM0, tPar, gSub, tChain, tNot, tNotV, tDG1, tDG2, tDNewT1, iKeys1, iEnum1, iList1, iTup1, iRng1, iRng2, List.set_cons_zero, List.set_cons_succ]
              refine x_and ?_
              try dsimp only [tSeq, tAsg, gName, tOp, tUn, tCB, tCons, tNil, tCall, tMethK1, tCallK1, tPar3, tRet, tRetN, tDrop, tTest, tB, tC, tNext, tAugS, tAug, sFld1, sFldAug1, tMeth1, tMake, tMakeK1, tSl, tPart, tNoPart, sDPut1, tDPop, tBM, tBM0, tPar, gSub, tChain, tNot, tNotV, tDG1, tDG2, tDNewT1, iKeys1, iEnum1, iList1, iTup1, iRng1, iRng2, List.set_cons_zero, List.set_cons_succ]
              refine x_var (by exact rfl) ?_
              refine x_ixTf (S.cellT 6 hr1) (by first | exact (by exact rfl) | exact at0) ?_
              refine x_eq ?_
              refine ⟨_, rfl, ?_⟩
              refine ited (fun c16 => ?_) (fun c16 => ?_)
              · exact absurd (V.str.inj c16) hkd
              · refine iteF ?_
                refine ⟨_, (), rfl, ?_⟩
                rw [take_snoc hrk, stFold_snoc]
                exact S
        · rintro σ H ⟨q5, u, rfl, S⟩
          rw [hrl, List.take_length] at S
          have hst := stFold_ok rks IntsS.nil
          have hstl := len_fold rks (kvs := [])
          rw [List.length_nil] at hstl
          try dsimp only [tSeq, tAsg, gName, tOp, tUn, tCB, tCons, tNil, tCall, tMethK1, tCallK1, tPar3, tRet, tRetN, tDrop, tTest, tB, tC, tNext, tAugS, tAug, sFld1, sFldAug1, tMeth1, tMake, tMakeK1, tSl, tPart, tNoPart, sDPut1, tDPop, tBM, tBM0, tPar, gSub, tChain, tNot, tNotV, tDG1, tDG2, tDNewT1, iKeys1, iEnum1, iList1, iTup1, iRng1, iRng2, List.set_cons_zero, List.set_cons_succ]
          try dsimp only [tSeq, tAsg, gName, tOp, tUn, tCB, tCons, tNil, tCall, tMethK1, tCallK1, tPar3, tRet, tRetN, tDrop, tTest, tB, tC, tNext, tAugS, tAug, sFld1, sFldAug1, tMeth1, tMake, tMakeK1, tSl, tPart, tNoPart, sDPut1, tDPop, tBM, tBM0, tPar, gSub, tChain, tNot, tNotV, tDG1, tDG2, tDNewT1, iKeys1, iEnum1, iList1, iTup1, iRng1, iRng2, List.set_cons_zero, List.set_cons_succ]
          refine x_for ?_
          try dsimp only [tOp, tUn, tCB, tCons, tNil, tCall, tMethK1, tCallK1, tC, tMeth1, tMake, tMakeK1, tSl, tPart, tNoPart, tDPop, tChain, tNotV, tBM, tBM0, tDG1, tDG2, tDNewT1, iKeys1, iEnum1, iList1, iTup1, iRng1, iRng2]
          refine ⟨_, rfl, by omega, by omega, ?_⟩
          refine forR (fun j σ H1 => ∃ (q5 q6 q7 : Option V), σ = [some (.ref a), some (.ref dp), some (.int (0 + (i : Nat))), some (.ref nm), some (.ref sh1), some (.ref D1), q5, q6, q7, none, none] ∧ Sep H0 [] H1 ((2, D1, .dK (stFold [] rks)) :: (2, sh1, .lst vs) :: (2, nm, .lst (ss.map V.str)) :: (2, dp, .dK (R_drw dg dc dr dt dm)) :: (2, dg, .lst (gs.map V.int)) :: (2, dc, .lst (cs.map V.int)) :: L)) ?_ ?_ ?_
          · exact ⟨_, _, _, rfl, S⟩
          · rintro j σ H hi ⟨q5, q6, q7, rfl, S⟩
            try dsimp only [tSeq, tAsg, gName, tOp, tUn, tCB, tCons, tNil, tCall, tMethK1, tCallK1, tPar3, tRet, tRetN, tDrop, tTest, tB, tC, tNext, tAugS, tAug, sFld1, sFldAug1, tMeth1, tMake, tMakeK1, tSl, tPart, tNoPart, sDPut1, tDPop, tBM, tBM0, tPar, gSub, tChain, tNot, tNotV, tDG1, tDG2, tDNewT1, iKeys1, iEnum1, iList1, iTup1, iRng1, iRng2, List.set_cons_zero, List.set_cons_succ]
            try dsimp only [tSeq, tAsg, gName, tOp, tUn, tCB, tCons, tNil, tCall, tMethK1, tCallK1, tPar3, tRet, tRetN, tDrop, tTest, tB, tC, tNext, tAugS, tAug, sFld1, sFldAug1, tMeth1, tMake, tMakeK1, tSl, tPart, tNoPart, sDPut1, tDPop, tBM, tBM0, tPar, gSub, tChain, tNot, tNotV, tDG1, tDG2, tDNewT1, iKeys1, iEnum1, iList1, iTup1, iRng1, iRng2, List.set_cons_zero, List.set_cons_succ]
            refine x_var (by exact rfl) ?_
            refine x_listS S (S.sl 1 (by exact rfl)) (fun lc1 H S => ?_)
            refine ⟨rfl, ?_⟩
            refine ⟨_, vs, rks, rfl, S.get 0 rfl, hrows.at S (fun c hc => List.mem_cons_of_mem _ (List.mem_cons_of_mem _ (List.mem_cons_of_mem _ (List.mem_cons_of_mem _ (List.mem_cons_of_mem _ (List.mem_cons_of_mem _ (List.mem_cons_of_mem _ hc))))))), by omega, fun fr1 H S9 => ?_⟩
            have S := S.call (H' := H) 1 [] trivial List.nodup_nil S9
            dsimp only [List.take_succ_cons, List.take_zero, List.drop_succ_cons, List.drop_zero, List.cons_append, List.nil_append, List.append_nil, List.foldl, List.set_cons_zero, List.set_cons_succ] at S
            try dsimp only [tSeq, tAsg, gName, tOp, tUn, tCB, tCons, tNil, tCall, tMethK1, tCallK1, tPar3, tRet, tRetN, tDrop, tTest, tB, tC, tNext, tAugS, tAug, sFld1, sFldAug1, tMeth1, tMake, tMakeK1, tSl, tPart, tNoPart, sDPut1, tDPop, tBM, tBM0, tPar, gSub, tChain, tNot, tNotV, tDG1, tDG2, tDNewT1, iKeys1, iEnum1, iList1, iTup1, iRng1, iRng2, List.set_cons_zero, List.set_cons_succ]
            refine x_if ?_
            try dsimp only [tSeq, tAsg, gName, tOp, tUn, tCB, tCons, tNil, tCall, tMethK1, tCallK1, tPar3, tRet, tRetN, tDrop, tTest, tB, tC, tNext, tAugS, tAug, sFld1, sFldAug1, tMeth1, tMake, tMakeK1, tSl, tPart, tNoPart, sDPut1, tDPop, tBM, tBM0, tPar, gSub, tChain, tNot, tNotV, tDG1, tDG2, tDNewT1, iKeys1, iEnum1, iList1, iTup1, iRng1, iRng2, List.set_cons_zero, List.set_cons_succ]
            refine x_or ?_
            try dsimp only [tSeq, tAsg, gName, tOp, tUn, tCB, tCons, tNil, tCall, tMethK1, tCallK1, tPar3, tRet, tRetN, tDrop, tTest, tB, tC, tNext, tAugS, tAug, sFld1, sFldAug1, tMeth1, tMake, tMakeK1, tSl, tPart, tNoPart, sDPut1, tDPop, tBM, tBM0, tPar, gSub, tChain, tNot, tNotV, tDG1, tDG2, tDNewT1, iKeys1, iEnum1, iList1, iTup1, iRng1, iRng2, List.set_cons_zero, List.set_cons_succ]
            refine x_var (by exact rfl) ?_
            refine x_isi (ty_dK S 0 (by exact rfl)) (by decide +kernel : kitB "dict" "dict" = some true) ?_
            refine ⟨_, rfl, ?_⟩
            refine iteF ?_
            refine x_var (by exact rfl) ?_
            refine x_var (by exact rfl) ?_
            refine ⟨_, _, _, _, rfl, rfl, S.get 0 rfl, S.get 2 rfl, rfl, hst.flat, ?_⟩
            refine ⟨_, rfl, ?_⟩
            refine iteF ?_
            try dsimp only [tSeq, tAsg, gName, tOp, tUn, tCB, tCons, tNil, tCall, tMethK1, tCallK1, tPar3, tRet, tRetN, tDrop, tTest, tB, tC, tNext, tAugS, tAug, sFld1, sFldAug1, tMeth1, tMake, tMakeK1, tSl, tPart, tNoPart, sDPut1, tDPop, tBM, tBM0, tPar, gSub, tChain, tNot, tNotV, tDG1, tDG2, tDNewT1, iKeys1, iEnum1, iList1, iTup1, iRng1, iRng2, List.set_cons_zero, List.set_cons_succ]
            refine x_if ?_
            try dsimp only [tSeq, tAsg, gName, tOp, tUn, tCB, tCons, tNil, tCall, tMethK1, tCallK1, tPar3, tRet, tRetN, tDrop, tTest, tB, tC, tNext, tAugS, tAug, sFld1, sFldAug1, tMeth1, tMake, tMakeK1, tSl, tPart, tNoPart, sDPut1, tDPop, tBM, tBM0, tPar, gSub, tChain, tNot, tNotV, tDG1, tDG2, tDNewT1, iKeys1, iEnum1, iList1, iTup1, iRng1, iRng2, List.set_cons_zero, List.set_cons_succ]
            refine x_lockE S 0 (by exact rfl) (by exact trivial) (fun od H S => ?_)
            simp only [List.set_cons_zero, List.set_cons_succ] at S
            refine x_lc ?_
            try dsimp only [tOp, tUn, tCB, tCons, tNil, tCall, tMethK1, tCallK1, tC, tMeth1, tMake, tMakeK1, tSl, tPart, tNoPart, tDPop, tChain, tNotV, tBM, tBM0, tDG1, tDG2, tDNewT1, iKeys1, iEnum1, iList1, iTup1, iRng1, iRng2]
            refine x_var (by exact rfl) ?_
            refine x_ikeys S 0 (by exact rfl) ?_
            refine lcW (walk_keys) S (fun D2 H S => ⟨fun l H1 => Sep H0 [] H1 ((2, D2, .lst []) :: (2, fr1, .frz od (.dK (stFold [] rks))) :: (2, D1, .dK (stFold [] rks)) :: (2, sh1, .lst vs) :: (2, nm, .lst (ss.map V.str)) :: (2, dp, .dK (R_drw dg dc dr dt dm)) :: (2, dg, .lst (gs.map V.int)) :: (2, dc, .lst (cs.map V.int)) :: L), ?_, ?_, ?_, ?_⟩)
            · exact S.subT 9 [0, 1, 3, 4, 5, 6, 7, 8]
            · rintro l H hi S
              exact S.get 1 rfl
            · rintro l y H H9 hi S hy
              obtain ⟨rfl, kk, vv, hkv, rfl⟩ := hy
              obtain ⟨sk, zk, hkz⟩ := hst.2 _ (List.mem_of_getElem? hkv)
              obtain ⟨rfl, rfl⟩ := Prod.mk.inj hkz
              have hsk := mem_valV hst.1 (List.mem_of_getElem? hkv)
              simp only at hsk
              refine ⟨rfl, ?_⟩
              try dsimp only [wipe, tYes, tSeq, tAsg, gName, tOp, tUn, tCB, tCons, tNil, tCall, tMethK1, tCallK1, tPar3, tRet, tRetN, tDrop, tTest, tB, tC, tNext, tAugS, tAug, sFld1, sFldAug1, tMeth1, tMake, tMakeK1, tSl, tPart, tNoPart, sDPut1, tDPop, tBM, tBM0, tPar, gSub, tChain, tNot, tNotV, tDG1, tDG2, tDNewT1, iKeys1, iEnum1, iList1, iTup1, iRng1, iRng2, List.set_cons_zero, List.set_cons_succ]
              refine x_or ?_
              try dsimp only [tSeq, tAsg, gName, tOp, tUn, tCB, tCons, tNil, tCall, tMethK1, tCallK1, tPar3, tRet, tRetN, tDrop, tTest, tB, tC, tNext, tAugS, tAug, sFld1, sFldAug1, tMeth1, tMake, tMakeK1, tSl, tPart, tNoPart, sDPut1, tDPop, tBM, tBM0, tPar, gSub, tChain, tNot, tNotV, tDG1, tDG2, tDNewT1, iKeys1, iEnum1, iList1, iTup1, iRng1, iRng2, List.set_cons_zero, List.set_cons_succ]
              refine x_var (by exact rfl) ?_
              refine x_var (by exact rfl) ?_
              refine x_dgetF (k := Sum.inr sk) S 1 (by exact rfl) hsk ?_
              refine x_isi ty_int (by decide +kernel : kitB "int" "bool" = some false) ?_
              refine ⟨_, rfl, ?_⟩
              refine iteF ?_
              refine x_var (by exact rfl) ?_
              refine x_var (by exact rfl) ?_
              refine x_dgetF (k := Sum.inr sk) S 1 (by exact rfl) hsk ?_
              refine x_isi ty_int (by decide +kernel : kitB "int" "int" = some true) ?_
              refine ⟨_, rfl, ?_⟩
              refine iteF ?_
              exact S
            · rintro H S
              refine x_unl S 1 (by exact rfl) (fun H S => ?_)
              simp only [List.set_cons_zero, List.set_cons_succ] at S
              refine x_lst S (by exact Nat.le_of_ble_eq_true rfl) (fun L1 H S => ?_)
              refine x_neL (xs := []) (ys := []) S 1 0 (by exact rfl) (by exact rfl) ?_
              refine ⟨_, rfl, ?_⟩
              refine itend (fun h => absurd rfl h) (fun c17 => ?_)
              try dsimp only [tSeq, tAsg, gName, tOp, tUn, tCB, tCons, tNil, tCall, tMethK1, tCallK1, tPar3, tRet, tRetN, tDrop, tTest, tB, tC, tNext, tAugS, tAug, sFld1, sFldAug1, tMeth1, tMake, tMakeK1, tSl, tPart, tNoPart, sDPut1, tDPop, tBM, tBM0, tPar, gSub, tChain, tNot, tNotV, tDG1, tDG2, tDNewT1, iKeys1, iEnum1, iList1, iTup1, iRng1, iRng2, List.set_cons_zero, List.set_cons_succ]
              refine x_var (by exact rfl) ?_
              refine x_dput (k := Sum.inr _) S 2 (by exact rfl) (by omega) (fun H S => ?_)
              simp only [List.set_cons_zero, List.set_cons_succ] at S
              exact ⟨_, _, _, rfl, S.subT 9 [3, 4, 5, 6, 7, 8]⟩
          · rintro σ H ⟨q5, q6, q7, rfl, S⟩
            try dsimp only [tSeq, tAsg, gName, tOp, tUn, tCB, tCons, tNil, tCall, tMethK1, tCallK1, tPar3, tRet, tRetN, tDrop, tTest, tB, tC, tNext, tAugS, tAug, sFld1, sFldAug1, tMeth1, tMake, tMakeK1, tSl, tPart, tNoPart, sDPut1, tDPop, tBM, tBM0, tPar, gSub, tChain, tNot, tNotV, tDG1, tDG2, tDNewT1, iKeys1, iEnum1, iList1, iTup1, iRng1, iRng2, List.set_cons_zero, List.set_cons_succ]
            exact ⟨_, _, _, _, _, _, _, _, _, _, _, rfl, hd, S.sub [3, 4, 5]⟩
    · rintro σ H ⟨dr, dt, dm, gs, q1, q2, q3, q4, q5, q6, q7, rfl, hd, S⟩
      try dsimp only [tSeq, tAsg, gName, tOp, tUn, tCB, tCons, tNil, tCall, tMethK1, tCallK1, tPar3, tRet, tRetN, tDrop, tTest, tB, tC, tNext, tAugS, tAug, sFld1, sFldAug1, tMeth1, tMake, tMakeK1, tSl, tPart, tNoPart, sDPut1, tDPop, tBM, tBM0, tPar, gSub, tChain, tNot, tNotV, tDG1, tDG2, tDNewT1, iKeys1, iEnum1, iList1, iTup1, iRng1, iRng2, List.set_cons_zero, List.set_cons_succ]
      try dsimp only [tSeq, tAsg, gName, tOp, tUn, tCB, tCons, tNil, tCall, tMethK1, tCallK1, tPar3, tRet, tRetN, tDrop, tTest, tB, tC, tNext, tAugS, tAug, sFld1, sFldAug1, tMeth1, tMake, tMakeK1, tSl, tPart, tNoPart, sDPut1, tDPop, tBM, tBM0, tPar, gSub, tChain, tNot, tNotV, tDG1, tDG2, tDNewT1, iKeys1, iEnum1, iList1, iTup1, iRng1, iRng2, List.set_cons_zero, List.set_cons_succ]
      exact k _
end
end G

set_option linter.all false
set_option maxRecDepth 100000
set_option maxHeartbeats 4000000
namespace G
open PySem PySem.Spec PyProof.Rows L2
theorem all_mk {l : PySem.W.OpenLaw} {w : World} {K : PySem.W.Frag} {h : Heap} {mg : Str → Option Value} {fa f1 f2 f3 f4 f5 f6 f7 f8 : Addr} (X : K.In h) (G : h.Ns mainGlobals mg) (hfa : mg "law" = some (.ref fa))
    {od1 an1 od2 an2 od3 an3 od4 an4 od5 an5 od6 an6 od7 an7 od8 an8 : Option Addr} {sl1 sl2 sl3 sl4 sl5 sl6 sl7 sl8 : Array (Option Value)}
    {oc1 kV1 dc1 pm1 cd1 ct1 oc2 kV2 dc2 pm2 cd2 ct2 oc3 kV3 dc3 pm3 cd3 ct3 oc4 kV4 dc4 pm4 cd4 ct4 oc5 kV5 dc5 pm5 cd5 ct5 oc6 kV6 dc6 pm6 cd6 ct6 oc7 kV7 dc7 pm7 cd7 ct7 oc8 kV8 dc8 pm8 cd8 ct8 : Value}
    (a1 : PySem.W.nsIn K mainGlobals "store_of" = some (some (.ref f1)))
    (l1 : K.lookup f1 = some ⟨oc1, od1, .func (PySem.W.fnOf "store_of" "store_of" (defArgs s_store_of) (defBody s_store_of) (defScope s_store_of) .none kV1 dc1 pm1 an1 cd1 ct1), sl1⟩)
    (c1 : PySem.W.codeIn K cd1 "store_of" = true)
    (k1 : PySem.W.keepIn K (.ref f1) = true)
    (a2 : PySem.W.nsIn K mainGlobals "_law_begun" = some (some (.ref f2)))
    (l2 : K.lookup f2 = some ⟨oc2, od2, .func (PySem.W.fnOf "_law_begun" "_law_begun" (defArgs s_law_begun) (defBody s_law_begun) (defScope s_law_begun) .none kV2 dc2 pm2 an2 cd2 ct2), sl2⟩)
    (c2 : PySem.W.codeIn K cd2 "_law_begun" = true)
    (k2 : PySem.W.keepIn K (.ref f2) = true)
    (a3 : PySem.W.nsIn K mainGlobals "_law_take" = some (some (.ref f3)))
    (l3 : K.lookup f3 = some ⟨oc3, od3, .func (PySem.W.fnOf "_law_take" "_law_take" (defArgs s_law_take) (defBody s_law_take) (defScope s_law_take) .none kV3 dc3 pm3 an3 cd3 ct3), sl3⟩)
    (c3 : PySem.W.codeIn K cd3 "_law_take" = true)
    (k3 : PySem.W.keepIn K (.ref f3) = true)
    (a4 : PySem.W.nsIn K mainGlobals "_law_pick" = some (some (.ref f4)))
    (l4 : K.lookup f4 = some ⟨oc4, od4, .func (PySem.W.fnOf "_law_pick" "_law_pick" (defArgs s_law_pick) (defBody s_law_pick) (defScope s_law_pick) .none kV4 dc4 pm4 an4 cd4 ct4), sl4⟩)
    (c4 : PySem.W.codeIn K cd4 "_law_pick" = true)
    (k4 : PySem.W.keepIn K (.ref f4) = true)
    (a5 : PySem.W.nsIn K mainGlobals "_law_names" = some (some (.ref f5)))
    (l5 : K.lookup f5 = some ⟨oc5, od5, .func (PySem.W.fnOf "_law_names" "_law_names" (defArgs s_law_names) (defBody s_law_names) (defScope s_law_names) .none kV5 dc5 pm5 an5 cd5 ct5), sl5⟩)
    (c5 : PySem.W.codeIn K cd5 "_law_names" = true)
    (k5 : PySem.W.keepIn K (.ref f5) = true)
    (a6 : PySem.W.nsIn K mainGlobals "_law_number" = some (some (.ref f6)))
    (l6 : K.lookup f6 = some ⟨oc6, od6, .func (PySem.W.fnOf "_law_number" "_law_number" (defArgs s_law_number) (defBody s_law_number) (defScope s_law_number) .none kV6 dc6 pm6 an6 cd6 ct6), sl6⟩)
    (c6 : PySem.W.codeIn K cd6 "_law_number" = true)
    (k6 : PySem.W.keepIn K (.ref f6) = true)
    (a7 : PySem.W.nsIn K mainGlobals "_law_row" = some (some (.ref f7)))
    (l7 : K.lookup f7 = some ⟨oc7, od7, .func (PySem.W.fnOf "_law_row" "_law_row" (defArgs s_law_row) (defBody s_law_row) (defScope s_law_row) .none kV7 dc7 pm7 an7 cd7 ct7), sl7⟩)
    (c7 : PySem.W.codeIn K cd7 "_law_row" = true)
    (k7 : PySem.W.keepIn K (.ref f7) = true)
    (a8 : PySem.W.nsIn K mainGlobals "law" = some (some (.ref f8)))
    (l8 : K.lookup f8 = some ⟨oc8, od8, .func (PySem.W.fnOf "law" "law" (defArgs s_law) (defBody s_law) (defScope s_law) .none kV8 dc8 pm8 an8 cd8 ct8), sl8⟩)
    (c8 : PySem.W.codeIn K cd8 "law" = true)
    (k8 : PySem.W.keepIn K (.ref f8) = true)
    (z_len : PySem.W.nsIn K mainGlobals "len" = some none)
    (z_list : PySem.W.nsIn K mainGlobals "list" = some none)
    (z_range : PySem.W.nsIn K mainGlobals "range" = some none)
    (z_abs : PySem.W.nsIn K mainGlobals "abs" = some none)
    (z_isinstance : PySem.W.nsIn K mainGlobals "isinstance" = some none)
    (z_int : PySem.W.nsIn K mainGlobals "int" = some none)
    (z_bool : PySem.W.nsIn K mainGlobals "bool" = some none)
    (z_dict : PySem.W.nsIn K mainGlobals "dict" = some none)
    : ∃ fd : FuncData, (∀ (s : Shared) (v : Value), BindsTo s fd ⟨[v], []⟩ [("_law_script", v)]) ∧ ∀ base : Heap, K.In base → base.Ns mainGlobals mg → FnOk l.prog w K mg base CX0 5 fa fd ["_law_script"] (spLaw K) := by
  have e := hfa.symm.trans (PySem.W.mg_of X G a8)
  cases e
  have F_store_of := fun_mk (st := s_store_of) l1 c1 k1
  have b_store_of := F_store_of.binds (ps := ["record"]) fun _ _ _ _ _ _ us hl => match us, hl with | [_], _ => rfl
  have g_store_of : mg "store_of" = some (.ref f1) := PySem.W.mg_of X G a1
  have F_law_begun := fun_mk (st := s_law_begun) l2 c2 k2
  have b_law_begun := F_law_begun.binds (ps := ["_law_script"]) fun _ _ _ _ _ _ us hl => match us, hl with | [_], _ => rfl
  have g_law_begun : mg "_law_begun" = some (.ref f2) := PySem.W.mg_of X G a2
  have F_law_take := fun_mk (st := s_law_take) l3 c3 k3
  have b_law_take := F_law_take.binds (ps := ["_law_draw", "_law_many"]) fun _ _ _ _ _ _ us hl => match us, hl with | [_, _], _ => rfl
  have g_law_take : mg "_law_take" = some (.ref f3) := PySem.W.mg_of X G a3
  have F_law_pick := fun_mk (st := s_law_pick) l4 c4 k4
  have b_law_pick := F_law_pick.binds (ps := ["_law_draw", "_law_some"]) fun _ _ _ _ _ _ us hl => match us, hl with | [_, _], _ => rfl
  have g_law_pick : mg "_law_pick" = some (.ref f4) := PySem.W.mg_of X G a4
  have F_law_names := fun_mk (st := s_law_names) l5 c5 k5
  have b_law_names := F_law_names.binds (ps := ["_law_draw", "_law_many"]) fun _ _ _ _ _ _ us hl => match us, hl with | [_, _], _ => rfl
  have g_law_names : mg "_law_names" = some (.ref f5) := PySem.W.mg_of X G a5
  have F_law_number := fun_mk (st := s_law_number) l6 c6 k6
  have b_law_number := F_law_number.binds (ps := ["_law_draw"]) fun _ _ _ _ _ _ us hl => match us, hl with | [_], _ => rfl
  have g_law_number : mg "_law_number" = some (.ref f6) := PySem.W.mg_of X G a6
  have F_law_row := fun_mk (st := s_law_row) l7 c7 k7
  have b_law_row := F_law_row.binds (ps := ["_law_draw", "_law_keys"]) fun _ _ _ _ _ _ us hl => match us, hl with | [_, _], _ => rfl
  have g_law_row : mg "_law_row" = some (.ref f7) := PySem.W.mg_of X G a7
  have F_law := fun_mk (st := s_law) l8 c8 k8
  have b_law := F_law.binds (ps := ["_law_script"]) fun _ _ _ _ _ _ us hl => match us, hl with | [_], _ => rfl
  have z_len : mg "len" = none := PySem.W.mg_none_of X G z_len
  have z_list : mg "list" = none := PySem.W.mg_none_of X G z_list
  have z_range : mg "range" = none := PySem.W.mg_none_of X G z_range
  have z_abs : mg "abs" = none := PySem.W.mg_none_of X G z_abs
  have z_isinstance : mg "isinstance" = none := PySem.W.mg_none_of X G z_isinstance
  have z_int : mg "int" = none := PySem.W.mg_none_of X G z_int
  have z_bool : mg "bool" = none := PySem.W.mg_none_of X G z_bool
  have z_dict : mg "dict" = none := PySem.W.mg_none_of X G z_dict
  refine ⟨PySem.W.fnOf "law" "law" (defArgs s_law) (defBody s_law) (defScope s_law) .none kV8 dc8 pm8 an8 cd8 ct8, fun s v => .of_eq rfl, fun base _ _ => ?_⟩
  have cbegun : Cal l.prog w K mg base CX0 1 "_law_begun" (spBegun K) := ⟨_, _, _, ok_law_begun F_law_begun z_abs, g_law_begun, F_law_begun.kp, b_law_begun⟩
  have ctake : Cal l.prog w K mg base CX0 1 "_law_take" spLTake := ⟨_, _, _, ok_law_take F_law_take z_len, g_law_take, F_law_take.kp, b_law_take⟩
  have cpick : Cal l.prog w K mg base CX0 2 "_law_pick" (spPick K) := ⟨_, _, _, ok_law_pick F_law_pick ctake z_len, g_law_pick, F_law_pick.kp, b_law_pick⟩
  have cnames : Cal l.prog w K mg base CX0 3 "_law_names" (spNames K) := ⟨_, _, _, ok_law_names F_law_names ctake cpick z_range, g_law_names, F_law_names.kp, b_law_names⟩
  have cnum : Cal l.prog w K mg base CX0 3 "_law_number" spNumber := ⟨_, _, _, ok_law_number F_law_number ctake cpick, g_law_number, F_law_number.kp, b_law_number⟩
  have crow : Cal l.prog w K mg base CX0 4 "_law_row" spRow := ⟨_, _, _, ok_law_row F_law_row ctake cpick cnum, g_law_row, F_law_row.kp, b_law_row⟩
  have cstore : CalK l.prog w K mg base CX0 1 "store_of" ["record"] [0] (spStore K) := ⟨_, _, _, ok_store_of F_store_of, g_store_of, F_store_of.kp, fun_kbn F_store_of 0 ["record"] [0] (fun _ _ _ _ _ _ us ws h1 h2 => match us, ws, h1, h2 with | [], [_], _, _ => rfl)⟩
  exact ok_law F_law cbegun ctake cnames crow cstore z_range z_list z_isinstance z_dict z_bool z_int
end G

set_option linter.all false
set_option maxRecDepth 100000
set_option maxHeartbeats 4000000
open PySem PySem.W PyProof.Rows
set_option maxRecDepth 100000 in
set_option maxHeartbeats 0 in
theorem PySem.Challenge.cw_farasked_k49_stores_told_holds : PySem.Challenge.rw_farasked_k49_stores_told.Holds := by
  w_on; o_law; k_head; (case hw => w_witness2)
  k_fill
  refine L2.walk_of (l := PySem.Challenge.rw_farasked_k49_stores_told) (n := 63) (k := 5) (x := "_law_script") (CX := fun _ => L2.CX0) (sp := fun w => G.spLaw _) rfl (by decide) rfl ⟨rfl, by decide, by decide⟩ (fun w h Y => PySem.W.kIn_of Y) ?F (fun _ _ a ns hl _ hS => ⟨a, ns, rfl, hS, hl, fun _ => rfl⟩) (fun _ _ _ _ _ h => h)
  case F =>
    intro w mg fa h KX GN hmg
    refine' G.all_mk KX GN hmg ?a1 ?l1 ?c1 ?k1 ?a2 ?l2 ?c2 ?k2 ?a3 ?l3 ?c3 ?k3 ?a4 ?l4 ?c4 ?k4 ?a5 ?l5 ?c5 ?k5 ?a6 ?l6 ?c6 ?k6 ?a7 ?l7 ?c7 ?k7 ?a8 ?l8 ?c8 ?k8 ?z_len ?z_list ?z_range ?z_abs ?z_isinstance ?z_int ?z_bool ?z_dict
    (case a1 => k_is)
    (case l1 => k_is)
    (case c1 => k_is)
    (case k1 => k_is)
    (case a2 => k_is)
    (case l2 => k_is)
    (case c2 => k_is)
    (case k2 => k_is)
    (case a3 => k_is)
    (case l3 => k_is)
    (case c3 => k_is)
    (case k3 => k_is)
    (case a4 => k_is)
    (case l4 => k_is)
    (case c4 => k_is)
    (case k4 => k_is)
    (case a5 => k_is)
    (case l5 => k_is)
    (case c5 => k_is)
    (case k5 => k_is)
    (case a6 => k_is)
    (case l6 => k_is)
    (case c6 => k_is)
    (case k6 => k_is)
    (case a7 => k_is)
    (case l7 => k_is)
    (case c7 => k_is)
    (case k7 => k_is)
    (case a8 => k_is)
    (case l8 => k_is)
    (case c8 => k_is)
    (case k8 => k_is)
    (case z_len => k_is)
    (case z_list => k_is)
    (case z_range => k_is)
    (case z_abs => k_is)
    (case z_isinstance => k_is)
    (case z_int => k_is)
    (case z_bool => k_is)
    (case z_dict => k_is)

