import PyProof.Rows.All
import Wide.All
import OpenK.AllK
import Wide.FinOn
import HandS.ForMost
import HandS.Wide
import HandS.Flow
import HandS.Defaults
import HandS.MakeKwOnly
import HandS.Codes
import HandS.More
import HandS.NoneIn
import HandS.Style
import HandS.IsInst
import KE.Datum
import HandS.Walk
import HandS.TupLen
import HandS.Zip
import HandS.Text
import HandS.RevTup
import HandS.Conv
import HandS.DictComp
import HandS.ExcOwn
import HandS.TryOnly
import HandS.WordsExc
import HandS.ExcIs
import PySem.Challenge.RW_farasked_k09_givers
set_option Elab.async false
set_option linter.all false
set_option maxRecDepth 100000
/-! what stands in the heap, as one list of cells -/
namespace G
open PySem PySem.Spec PyProof.Rows L2

/-- a cell: 0 read alone, 1 of the caller's and to be changed, 2 new here -/
abbrev Cell := Nat × Addr × HO
structure Sep (H0 : Hp) (ft : List Addr) (H : Hp) (l : List Cell) : Prop where
  nd : (l.map (·.2.1)).Nodup
  rd : ∀ c ∈ l, H c.2.1 = some c.2.2
  fr : ∀ b o, H0 b = some o → b ∉ ft → H b = some o
  wr : ∀ c ∈ l, c.1 = 1 → c.2.1 ∈ ft
  nw : ∀ c ∈ l, c.1 = 2 → H0 c.2.1 = none
  ex : ∀ b ∈ ft, ∃ o, H b = some o
section
variable {H0 H H' : Hp} {ft : List Addr} {l : List Cell} {t : Nat} {a p q b : Addr} {o o' u : HO}
theorem Sep.nil (ex : ∀ b ∈ ft, ∃ o, H b = some o) : Sep H ft H [] := ⟨List.nodup_nil, fun _ h => (nomatch h), fun _ _ h _ => h, fun _ h => (nomatch h), fun _ h => (nomatch h), ex⟩
theorem Sep.mem (S : Sep H0 ft H l) (i : Nat) {c : Cell} (h : l[i]? = some c) : c ∈ l := List.mem_of_getElem? h
theorem Sep.get (S : Sep H0 ft H l) (i : Nat) (h : l[i]? = some (t, a, o)) : H a = some o := S.rd _ (List.mem_of_getElem? h)
theorem Sep.new_none (S : Sep H0 ft H l) (i : Nat) (h : l[i]? = some (2, a, o)) : H0 a = none := S.nw _ (List.mem_of_getElem? h) rfl
theorem Sep.ne {t t' : Nat} (S : Sep H0 ft H l) (i j : Nat) (h : l[i]? = some (t, a, o)) (h' : l[j]? = some (t', b, u)) (d : i ≠ j) : a ≠ b := by
  intro e
  have h1 : (l.map (·.2.1))[i]? = some a := by rw [List.getElem?_map, h]; rfl
  have h2 : (l.map (·.2.1))[j]? = some a := by rw [List.getElem?_map, h', e]; rfl
  obtain ⟨x1, e1⟩ := List.getElem?_eq_some_iff.mp h1
  obtain ⟨x2, e2⟩ := List.getElem?_eq_some_iff.mp h2
  exact d ((List.getElem_inj S.nd).mp (e1.trans e2.symm))
theorem Sep.add (S : Sep H0 ft H l) (t : Nat) (ha : H a = some o) (hn : ∀ c ∈ l, c.2.1 ≠ a) (h1 : t = 1 → a ∈ ft) (h2 : t = 2 → H0 a = none) : Sep H0 ft H ((t, a, o) :: l) :=
  ⟨List.nodup_cons.mpr ⟨fun m => by obtain ⟨c, hc, e⟩ := List.mem_map.mp m; exact hn c hc e, S.nd⟩,
   fun c hc => (List.mem_cons.mp hc).elim (fun e => by rw [e]; exact ha) (S.rd c), S.fr,
   fun c hc => (List.mem_cons.mp hc).elim (fun e => by rw [e]; exact h1) (S.wr c),
   fun c hc => (List.mem_cons.mp hc).elim (fun e => by rw [e]; exact h2) (S.nw c), S.ex⟩
/-- what is not there was not there at the entry, where all that may be changed is there -/
theorem Sep.none0 (S : Sep H0 ft H l) (hp : H p = none) : H0 p = none := by
  cases e : H0 p with
  | none => rfl
  | some o =>
    by_cases m : p ∈ ft
    · obtain ⟨u, hu⟩ := S.ex p m
      rw [hp] at hu; cases hu
    · have := S.fr p o e m
      rw [hp] at this; cases this
theorem Sep.new (S : Sep H0 ft H l) (hp : H p = none) (o : HO) : Sep H0 ft (upd H p o) ((2, p, o) :: l) := by
  have h0 := S.none0 hp
  have hne : ∀ c ∈ l, c.2.1 ≠ p := fun c hc e => by
    have := S.rd c hc
    rw [e, hp] at this; cases this
  have S' : Sep H0 ft (upd H p o) l := ⟨S.nd, fun c hc => by rw [upd_ne (hne c hc)]; exact S.rd c hc, fun b u e m => by rw [upd_ne (ne_of_none e h0)]; exact S.fr b u e m, S.wr, S.nw, fun b m => by obtain ⟨u, hu⟩ := S.ex b m; exact ⟨u, by rw [upd_ne (ne_of_none hu hp)]; exact hu⟩⟩
  exact S'.add 2 upd_same hne (fun e => by cases e) fun _ => h0
theorem Sep.put (S : Sep H0 ft H l) (i : Nat) (o' : HO) (h : l[i]? = some (t, a, o)) (ht : t = 1 ∨ t = 2 := by first | exact .inl rfl | exact .inr rfl) : Sep H0 ft (upd H a o') (l.set i (t, a, o')) := by
  have hw : H0 a = none ∨ a ∈ ft := by
    rcases ht with e | e
    · exact .inr (S.wr _ (List.mem_of_getElem? h) e)
    · exact .inl (S.nw _ (List.mem_of_getElem? h) e)
  have hi : i < l.length := (List.getElem?_eq_some_iff.mp h).1
  have em : (l.set i (t, a, o')).map (·.2.1) = l.map (·.2.1) := by
    rw [List.map_set]
    have : (l.map (·.2.1))[i]? = some a := by rw [List.getElem?_map, h]; rfl
    obtain ⟨x, e⟩ := List.getElem?_eq_some_iff.mp this
    rw [← e]
    exact List.set_getElem_self x
  refine ⟨by rw [em]; exact S.nd, fun c hc => ?_, fun b u e m => ?_, fun c hc => ?_, fun c hc => ?_, fun b m => ?_⟩
  · rcases List.getElem?_of_mem hc with ⟨j, hj⟩
    by_cases e : i = j
    · subst e
      rw [List.getElem?_set_self hi] at hj
      cases hj
      exact upd_same
    · rw [List.getElem?_set_ne e] at hj
      have hne : c.2.1 ≠ a := S.ne (t := c.1) (o := c.2.2) j i hj h (Ne.symm e)
      rw [upd_ne hne]
      exact S.rd c (List.mem_of_getElem? hj)
  · have nb : b ≠ a := fun z => by
      rw [z] at e m
      rcases hw with k | k
      · rw [k] at e; cases e
      · exact m k
    rw [upd_ne nb]
    exact S.fr b u e m
  · rcases List.mem_or_eq_of_mem_set hc with hc | rfl
    · exact S.wr c hc
    · exact fun e => S.wr (t, a, o) (List.mem_of_getElem? h) e
  · rcases List.mem_or_eq_of_mem_set hc with hc | rfl
    · exact S.nw c hc
    · exact fun e => S.nw (t, a, o) (List.mem_of_getElem? h) e
  · obtain ⟨u, hu⟩ := S.ex b m
    by_cases e : b = a
    · subst e; exact ⟨_, upd_same⟩
    · exact ⟨u, by rw [upd_ne e]; exact hu⟩
/-- behind a call that changes nothing that was -/
theorem Sep.stay (S : Sep H0 ft H l) (F : ∀ b o, H b = some o → H' b = some o) : Sep H0 ft H' l :=
  ⟨S.nd, fun c hc => F _ _ (S.rd c hc), fun b o e m => F b o (S.fr b o e m), S.wr, S.nw, fun b m => let ⟨u, hu⟩ := S.ex b m; ⟨u, F b u hu⟩⟩
/-- behind a call that changes the i-th cell alone -/
theorem Sep.chg1 (S : Sep H0 ft H l) (i : Nat) (h : l[i]? = some (t, a, o)) (F : ∀ b u, H b = some u → b ≠ a → H' b = some u) (e : H' a = some o') (ht : t = 1 ∨ t = 2 := by first | exact .inl rfl | exact .inr rfl) :
    Sep H0 ft H' (l.set i (t, a, o')) := by
  have S1 := S.put i o' h ht
  refine S1.stay fun b u hb => ?_
  by_cases z : b = a
  · subst z; rw [upd_same] at hb; cases hb; exact e
  · rw [upd_ne z] at hb; exact F b u hb z
theorem Sep.chg2 {t' : Nat} {o2 o2' : HO} (S : Sep H0 ft H l) (i j : Nat) (h : l[i]? = some (t, a, o)) (h' : l[j]? = some (t', b, o2)) (d : i ≠ j) (F : ∀ c u, H c = some u → c ≠ a → c ≠ b → H' c = some u) (e : H' a = some o') (e2 : H' b = some o2')
    (ht : t = 1 ∨ t = 2 := by first | exact .inl rfl | exact .inr rfl) (ht' : t' = 1 ∨ t' = 2 := by first | exact .inl rfl | exact .inr rfl) : Sep H0 ft H' ((l.set i (t, a, o')).set j (t', b, o2')) := by
  have S1 := S.put i o' h ht
  have nab : a ≠ b := S.ne i j h h' d
  refine S1.chg1 j (by rw [List.getElem?_set_ne d]; exact h') (fun c u hc z => ?_) e2 ht'
  by_cases w : c = a
  · subst w; rw [upd_same] at hc; cases hc; exact e
  · rw [upd_ne w] at hc; exact F c u hc w z
theorem nodup_of {α : Type} (l : List α) (is : List Nat) : is.Nodup → l.Nodup → (is.filterMap (l[·]?)).Nodup := by
  intro h1 h2
  induction is with
  | nil => exact List.nodup_nil
  | cons i r ih =>
    obtain ⟨n1, n2⟩ := List.nodup_cons.mp h1
    cases e : l[i]? with
    | none => rw [List.filterMap_cons_none e]; exact ih n2
    | some x =>
      rw [List.filterMap_cons_some e]
      refine List.nodup_cons.mpr ⟨fun m => ?_, ih n2⟩
      obtain ⟨j, hj, ej⟩ := List.mem_filterMap.mp m
      obtain ⟨x1, e1⟩ := List.getElem?_eq_some_iff.mp e
      obtain ⟨x2, e2⟩ := List.getElem?_eq_some_iff.mp ej
      have := (List.getElem_inj h2).mp (e1.trans e2.symm)
      subst this
      exact n1 hj
/-- some of the cells, in another order -/
theorem Sep.sub (S : Sep H0 ft H l) (is : List Nat) (hn : is.Nodup := by decide) : Sep H0 ft H (is.filterMap (l[·]?)) := by
  have hm : ∀ c ∈ is.filterMap (l[·]?), c ∈ l := fun c hc => by
    obtain ⟨j, _, ej⟩ := List.mem_filterMap.mp hc
    exact List.mem_of_getElem? ej
  refine ⟨?_, fun c hc => S.rd c (hm c hc), S.fr, fun c hc => S.wr c (hm c hc), fun c hc => S.nw c (hm c hc), S.ex⟩
  have : (is.filterMap (l[·]?)).map (·.2.1) = is.filterMap ((l.map (·.2.1))[·]?) := by
    rw [List.map_filterMap]
    congr 1
    funext i
    rw [List.getElem?_map]
  rw [this]
  exact nodup_of _ is hn S.nd
theorem Sep.sq {K : PySem.W.Frag} {xs : List V} (S : Sep H0 ft H l) (h : SqL K H0 a xs) (ha : a ∉ ft) : SqL K H a xs := by
  rcases h with (h | ⟨o, h⟩) | h
  · exact .inl (.inl (S.fr _ _ h ha))
  · exact .inl (.inr ⟨o, S.fr _ _ h ha⟩)
  · exact .inr h
theorem Sep.sl {K : PySem.W.Frag} {xs : List V} (S : Sep H0 ft H l) (i : Nat) (h : l[i]? = some (t, a, .lst xs)) : SqL K H a xs := .of (S.get i h)
theorem Sep.st {K : PySem.W.Frag} {xs : List V} (S : Sep H0 ft H l) (i : Nat) (h : l[i]? = some (t, a, .tup xs)) : SqT K H a xs := .of (S.get i h)
theorem Sep.of0 : Sep H [] H [] := Sep.nil fun _ h => (nomatch h)
theorem Sep.of1 (h : H a = some o) : Sep H [a] H [(1, a, o)] := (Sep.nil fun b m => by rw [List.mem_singleton.mp m]; exact ⟨o, h⟩).add 1 h (fun _ z => nomatch z) (fun _ => List.mem_singleton_self a) (fun z => by cases z)
theorem Sep.of2 (h : H a = some o) (h' : H b = some u) (n : a ≠ b) : Sep H [a, b] H [(1, a, o), (1, b, u)] :=
  ((Sep.nil fun c m => (List.mem_cons.mp m).elim (fun e => by rw [e]; exact ⟨_, h⟩) fun m => by rw [List.mem_singleton.mp m]; exact ⟨_, h'⟩).add 1 h' (fun _ z => nomatch z) (fun _ => by simp) (fun z => by cases z)).add 1 h (fun c hc => by rw [List.mem_singleton.mp hc]; exact n.symm) (fun _ => by simp) (fun z => by cases z)
theorem Sep.out (S : Sep H0 ft H l) : ∀ b o, H0 b = some o → b ∉ ft → H b = some o := S.fr
theorem Sep.out1 (S : Sep H0 [a] H l) : ∀ b o, H0 b = some o → b ≠ a → H b = some o := fun b o e n => S.fr b o e (by simp [n])
theorem Sep.out2 (S : Sep H0 [a, b] H l) : ∀ c o, H0 c = some o → c ≠ a → c ≠ b → H c = some o := fun c o e n m => S.fr c o e (by simp [n, m])
end
/-! ### steps: what a reading asks, answered over the cells -/
section
variable {H0 H : Hp} {ft : List Addr} {l : List Cell} {t : Nat} {a p : Addr} {o : HO} {K : PySem.W.Frag} {σ : L2.St} {Q : VK} {v x y : V} {i j : Int}
theorem x_var {n : Nat} (h : σ[n]? = some (some v)) (q : Q v H) : tVar n σ H Q := ⟨v, h, q⟩
theorem x_ixF {xs : List V} (S : Sep H0 ft H l) (n : Nat) (h : l[n]? = some (t, p, .lst xs)) (ha : atI xs i = some v) (q : Q v H) : rIxL K (.ref p) (.int i) H Q := ⟨p, xs, i, v, rfl, rfl, S.sl n h, ha, q⟩
theorem x_ixT {xs : List V} (S : Sep H0 ft H l) (n : Nat) (h : l[n]? = some (t, p, .tup xs)) (ha : atI xs i = some v) (q : Q v H) : rIxT K (.ref p) (.int i) H Q := ⟨p, xs, i, v, rfl, rfl, S.st n h, ha, q⟩
theorem at_map {α : Type} {f : α → V} {cs : List α} {i : Int} (h0 : 0 ≤ i) (h : i < cs.length) : ∃ c, cs[i.toNat]? = some c ∧ atI (cs.map f) i = some (f c) := by
  have hl : i.toNat < cs.length := by omega
  refine ⟨cs[i.toNat], List.getElem?_eq_getElem hl, ?_⟩
  have e : ((i.toNat : Nat) : Int) = i := by omega
  have := atI_nat (xs := cs.map f) (j := i.toNat) (v := f cs[i.toNat]) (by rw [List.getElem?_map, List.getElem?_eq_getElem hl]; rfl)
  rw [e] at this
  exact this
theorem x_ixI {cs : List Int} (S : Sep H0 ft H l) (n : Nat) (h : l[n]? = some (t, p, .lst (cs.map V.int))) (h0 : 0 ≤ i) (h1 : i < cs.length) (q : ∀ c, cs[i.toNat]? = some c → Q (.int c) H) : rIxL K (.ref p) (.int i) H Q := by
  obtain ⟨c, hc, ha⟩ := at_map (f := V.int) h0 h1
  exact ⟨p, _, i, _, rfl, rfl, S.sl n h, ha, q c hc⟩
theorem x_ixS {cs : List Int} (hs : SqL K H p (cs.map V.int)) (h0 : 0 ≤ i) (h1 : i < cs.length) (q : ∀ c, cs[i.toNat]? = some c → Q (.int c) H) : rIxL K (.ref p) (.int i) H Q := by
  obtain ⟨c, hc, ha⟩ := at_map (f := V.int) h0 h1
  exact ⟨p, _, i, _, rfl, rfl, hs, ha, q c hc⟩
theorem x_setL {xs : List V} {k : Nat} {Qd : Hp → Prop} (S : Sep H0 ft H l) (n : Nat) (h : l[n]? = some (t, p, .lst xs)) (hj : ixN xs.length i = some k) (q : ∀ H', Sep H0 ft H' (l.set n (t, p, .lst (xs.set k v))) → Qd H')
    (ht : t = 1 ∨ t = 2 := by first | exact .inl rfl | exact .inr rfl) : rSetL (.ref p) (.int i) v H Qd := ⟨p, xs, i, k, rfl, rfl, S.get n h, hj, q _ (S.put n _ h ht)⟩
theorem ixN_in {n : Nat} (h0 : 0 ≤ i) (h : i < n) : ixN n i = some i.toNat := by unfold ixN; rw [if_pos h0, if_pos h]
theorem x_setI {cs : List Int} {Qd : Hp → Prop} (S : Sep H0 ft H l) (n : Nat) (h : l[n]? = some (t, p, .lst (cs.map V.int))) (h0 : 0 ≤ i) (h1 : i < cs.length) (q : ∀ H', Sep H0 ft H' (l.set n (t, p, .lst ((cs.set i.toNat j).map V.int))) → Qd H')
    (ht : t = 1 ∨ t = 2 := by first | exact .inl rfl | exact .inr rfl) : rSetL (.ref p) (.int i) (.int j) H Qd := by
  refine ⟨p, _, i, i.toNat, rfl, rfl, S.get n h, ixN_in h0 (by rw [List.length_map]; exact h1), ?_⟩
  have := S.put n (.lst ((cs.map V.int).set i.toNat (.int j))) h ht
  rw [← List.map_set] at this ⊢
  exact q _ this
def rLen (K : PySem.W.Frag) : List V → Hp → VK → Prop := fun xs H Q => ∃ p ys, xs = [.ref p] ∧ (SqL K H p ys ∨ SqT K H p ys) ∧ Q (.int ys.length) H
theorem cl_len {X : Cx} : CallR X (.builtin "len") (rLen X.K) := call_len_seq
theorem x_len {xs : List V} (S : Sep H0 ft H l) (n : Nat) (h : l[n]? = some (t, p, .lst xs)) (q : Q (.int xs.length) H) : rLen K [.ref p] H Q := ⟨p, xs, rfl, .inl (S.sl n h), q⟩
theorem x_lenI {cs : List Int} (S : Sep H0 ft H l) (n : Nat) (h : l[n]? = some (t, p, .lst (cs.map V.int))) (q : Q (.int cs.length) H) : rLen K [.ref p] H Q := ⟨p, _, rfl, .inl (S.sl n h), by rw [List.length_map]; exact q⟩
theorem x_lenT {xs : List V} (S : Sep H0 ft H l) (n : Nat) (h : l[n]? = some (t, p, .tup xs)) (q : Q (.int xs.length) H) : rLen K [.ref p] H Q := ⟨p, xs, rfl, .inr (S.st n h), q⟩
theorem x_lenS {cs : List Int} (hs : SqL K H p (cs.map V.int)) (q : Q (.int cs.length) H) : rLen K [.ref p] H Q := ⟨p, _, rfl, .inl hs, by rw [List.length_map]; exact q⟩
theorem x_I {C : Int → Int → Prop} {g : Int → Int → V} (c : C i j) (q : Q (g i j) H) : rI C g (.int i) (.int j) H Q := ⟨i, j, rfl, rfl, c, q⟩
theorem x_I0 {g : Int → Int → V} (q : Q (g i j) H) : rI0 g (.int i) (.int j) H Q := ⟨i, j, rfl, rfl, q⟩
theorem x_ip {f : Int → Int → Int} (q : Q (.int (f i j)) H) : ipI f (.int i) (.int j) H Q := ⟨i, j, rfl, rfl, q⟩
theorem x_U {g : Int → V} (q : Q (g i) H) : rU g (.int i) H Q := ⟨i, rfl, q⟩
theorem x_eq (q : Q (.bl (decide (x = y))) H) (s : scal x y = true := by rfl) : rEq x y H Q := ⟨s, q⟩
theorem x_ne (q : Q (.bl (!decide (x = y))) H) (s : scal x y = true := by rfl) : rNe x y H Q := ⟨s, q⟩
theorem x_bl {b : Bool} {R : Bool → Hp → Prop} (q : R b H) : ∃ k, V.bl b = .bl k ∧ R k H := ⟨b, rfl, q⟩
/-- a new object -/
theorem x_new (S : Sep H0 ft H l) (o : HO) {R : Addr → Hp → Prop} (q : ∀ p H', Sep H0 ft H' ((2, p, o) :: l) → R p H') : ∀ p, H p = none → R p (upd H p o) := fun p hp => q p _ (S.new hp o)
end
/-! ### more steps -/
section
variable {H0 H : Hp} {ft : List Addr} {l : List Cell} {t : Nat} {a p : Addr} {o : HO} {K : PySem.W.Frag} {σ : L2.St} {Q : VK} {v x y : V} {i j : Int}
theorem div_ok (h : 0 < j) (h2 : j < 2 ^ 200) : CDivW i j := wide_div (b := 200) h (by omega) (by decide) (by decide)
theorem x_if {tc : TT} {t u : TS} {D : Ends} (h : tc σ H fun b H1 => if b = true then t D σ H1 else u D σ H1) : tIfS tc t u D σ H := h
def ForJ (J : It) (g : TG) (tb : TS) (D : Ends) (σ : L2.St) (H : Hp) : Prop := ∃ W : Nat → Nat → L2.St → Hp → Prop, (∃ m, W 0 m σ H) ∧ ∀ i m σ H, W i m σ H →
  (J.stop i H ∧ D.nx σ H) ∨ (J.go i H ∧ ∃ N : L2.St → Hp → Prop, (∀ σ' H', N σ' H' → ∃ m', m' < m ∧ W (i + 1) m' σ' H') ∧ ∀ x H', J.yld i H x H' → g x σ H' fun σ2 H2 => tb { D with nx := N, ct := N, bk := D.nx } σ2 H2)
theorem x_for {wi : TI} {g : TG} {tb : TS} {D : Ends} (h : wi σ H fun J H1 => ForJ J g tb D σ H1) : tFor wi g tb D σ H := h
theorem forR {lo : Int} {n : Nat} {g : TG} {tb : TS} {D : Ends} (Pv : Nat → L2.St → Hp → Prop) (h0 : Pv 0 σ H)
    (hs : ∀ i σ H, i < n → Pv i σ H → g (.int (lo + i)) σ H fun σ2 H2 => tb { D with nx := Pv (i + 1), ct := Pv (i + 1), bk := D.nx } σ2 H2) (hd : ∀ σ H, Pv n σ H → D.nx σ H) : ForJ (Itr lo n) g tb D σ H := for_range Pv h0 hs hd
theorem forL {xs : List V} {g : TG} {tb : TS} {D : Ends} (Pv : Nat → L2.St → Hp → Prop) (h0 : Pv 0 σ H) (hl : ∀ i σ H, i ≤ xs.length → Pv i σ H → SqL K H a xs)
    (hs : ∀ i x σ H, xs[i]? = some x → Pv i σ H → g x σ H fun σ2 H2 => tb { D with nx := Pv (i + 1), ct := Pv (i + 1), bk := D.nx } σ2 H2) (hd : ∀ σ H, Pv xs.length σ H → D.nx σ H) : ForJ (Itl K a) g tb D σ H := for_list Pv h0 hl hs hd
def LcJ (J : It) (g : TG) (tt : TT) (te : TE) (vs : List Nat) (σ : L2.St) (H1 : Hp) (Q : VK) : Prop := ∀ D, H1 D = none → ∃ W : Nat → Nat → Hp → Prop, (∃ m, W 0 m (upd H1 D (.lst []))) ∧ ∀ i m H, W i m H →
  (J.stop i H ∧ Q (.ref D) H) ∨ (J.go i H ∧ ∃ Nx : Hp → Prop, (∀ H', Nx H' → ∃ m', m' < m ∧ W (i + 1) m' H') ∧ ∀ x H', J.yld i H x H' → g x (wipe σ vs) H' fun σ2 H2 => wipe σ2 vs = wipe σ vs ∧ tt σ2 H2 fun b H3 =>
    if b = true then te σ2 H3 fun y H4 => ∃ acc, H4 D = some (.lst acc) ∧ acc.length < sizeLine ∧ Nx (upd H4 D (.lst (acc ++ [y]))) else Nx H3)
theorem x_lc {wi : TI} {g : TG} {tt : TT} {te : TE} {vs : List Nat} (h : wi σ H fun J H1 => LcJ J g tt te vs σ H1 Q) : tLc wi g tt te vs σ H Q := h
/-- what a turn hands on is put behind the new list -/
def rLcA (D : Addr) (y : V) (H : Hp) (R : Hp → Prop) : Prop := ∃ acc, H D = some (.lst acc) ∧ acc.length < sizeLine ∧ R (upd H D (.lst (acc ++ [y])))
theorem lcR {lo : Int} {n : Nat} {g : TG} {tt : TT} {te : TE} {vs : List Nat} (S : Sep H0 ft H l) (h : ∀ D H1, Sep H0 ft H1 ((2, D, .lst []) :: l) → ∃ Pv : Nat → Hp → Prop, Pv 0 H1 ∧
    (∀ i H, i < n → Pv i H → g (.int (lo + i)) (wipe σ vs) H fun σ2 H2 => wipe σ2 vs = wipe σ vs ∧ tt σ2 H2 fun b H3 => if b = true then te σ2 H3 fun y H4 => rLcA D y H4 (Pv (i + 1)) else Pv (i + 1) H3) ∧
    ∀ H, Pv n H → Q (.ref D) H) : LcJ (Itr lo n) g tt te vs σ H Q := fun D hD =>
  let ⟨Pv, h0, hs, hd⟩ := h D _ (S.new hD (.lst []))
  lc_range (H1 := H) Pv h0 hs hd
theorem lcL {xs : List V} {g : TG} {tt : TT} {te : TE} {vs : List Nat} (S : Sep H0 ft H l) (h : ∀ D H1, Sep H0 ft H1 ((2, D, .lst []) :: l) → ∃ Pv : Nat → Hp → Prop, Pv 0 H1 ∧ (∀ i H, i ≤ xs.length → Pv i H → SqL K H a xs) ∧
    (∀ i x H, xs[i]? = some x → Pv i H → g x (wipe σ vs) H fun σ2 H2 => wipe σ2 vs = wipe σ vs ∧ tt σ2 H2 fun b H3 => if b = true then te σ2 H3 fun y H4 => rLcA D y H4 (Pv (i + 1)) else Pv (i + 1) H3) ∧
    ∀ H, Pv xs.length H → Q (.ref D) H) : LcJ (Itl K a) g tt te vs σ H Q := fun D hD =>
  let ⟨Pv, h0, hl, hs, hd⟩ := h D _ (S.new hD (.lst []))
  lc_list (H1 := H) Pv h0 hl hs hd
theorem x_lcapp {xs : List V} {R : Hp → Prop} (S : Sep H0 ft H l) (n : Nat) (h : l[n]? = some (t, p, .lst xs)) (hl : xs.length < 100000) (q : ∀ H', Sep H0 ft H' (l.set n (t, p, .lst (xs ++ [v]))) → R H') (ht : t = 1 ∨ t = 2 := by first | exact .inl rfl | exact .inr rfl) :
    rLcA p v H R := ⟨xs, S.get n h, Nat.lt_of_lt_of_le hl (by decide), q _ (S.put n _ h ht)⟩
theorem x_lcappI {cs : List Int} {R : Hp → Prop} (S : Sep H0 ft H l) (n : Nat) (h : l[n]? = some (t, p, .lst (cs.map V.int))) (hl : cs.length < 100000) (q : ∀ H', Sep H0 ft H' (l.set n (t, p, .lst ((cs ++ [i]).map V.int))) → R H') (ht : t = 1 ∨ t = 2 := by first | exact .inl rfl | exact .inr rfl) :
    rLcA p (.int i) H R := x_lcapp S n h (by rw [List.length_map]; exact hl) (fun H' S' => q H' (by rw [List.map_append]; exact S')) ht
theorem elem_of {α : Type} {f : α → V} {xs : List α} {n : Nat} {y : V} (h : (xs.map f)[n]? = some y) : ∃ z, xs[n]? = some z ∧ y = f z := by
  rw [List.getElem?_map] at h
  cases e : xs[n]? with
  | none => rw [e] at h; cases h
  | some z => rw [e] at h; exact ⟨z, rfl, (Option.some.inj h).symm⟩
theorem filter_snoc_pos {α : Type} {p : α → Bool} {xs : List α} {z : α} (h : p z = true) : xs.filter p ++ [z] = (xs ++ [z]).filter p := by rw [List.filter_append, List.filter_cons_of_pos h, List.filter_nil]
theorem filter_snoc_neg {α : Type} {p : α → Bool} {xs : List α} {z : α} (h : p z = false) : xs.filter p = (xs ++ [z]).filter p := by rw [List.filter_append, List.filter_cons_of_neg (by rw [h]; exact Bool.false_ne_true), List.filter_nil, List.append_nil]
theorem take_snoc {α : Type} {xs : List α} {n : Nat} {z : α} (h : xs[n]? = some z) : xs.take (n + 1) = xs.take n ++ [z] := by rw [List.take_add_one, h]; rfl
theorem lt_of_get {α : Type} {xs : List α} {n : Nat} {z : α} (h : xs[n]? = some z) : n < xs.length := (List.getElem?_eq_some_iff.mp h).1
theorem x_ifE {tt : TT} {ta tb : TE} (h : tt σ H fun c H1 => if c = true then ta σ H1 Q else tb σ H1 Q) : tIf tt ta tb σ H Q := h
/-- what follows a value is shown once -/
theorem x_ifx {tt : TT} {ta tb : TE} (R : V → Hp → Prop) (k : ∀ v H', R v H' → Q v H') (h : (∀ v H', R v H' → Q v H') → tIf tt ta tb σ H Q) : tIf tt ta tb σ H Q := h k
/-- what follows an if is shown once -/
theorem x_ifS {tc : TT} {t u : TS} {D : Ends} (R : L2.St → Hp → Prop) (k : ∀ σ H', R σ H' → D.nx σ H') (h : (∀ σ H', R σ H' → D.nx σ H') → tIfS tc t u D σ H) : tIfS tc t u D σ H := h k
theorem x_andV {ta tb : TE} (h : ta σ H fun x H1 => ∃ c, x = .bl c ∧ if c = true then tb σ H1 Q else Q (.bl false) H1) : tAndV ta tb σ H Q := h
theorem x_orV {ta tb : TE} (h : ta σ H fun x H1 => ∃ c, x = .bl c ∧ if c = true then Q (.bl true) H1 else tb σ H1 Q) : tOrV ta tb σ H Q := h
theorem x_and {t u : TT} {R : Bool → Hp → Prop} (h : t σ H fun c H1 => if c = true then u σ H1 R else R false H1) : tAnd t u σ H R := h
theorem x_or {t u : TT} {R : Bool → Hp → Prop} (h : t σ H fun c H1 => if c = true then R true H1 else u σ H1 R) : tOr t u σ H R := h
theorem x_turn {G : L2.St → Hp → Prop} {R : (L2.St → Hp → Prop) → Prop} (h : R G) : ∃ N : L2.St → Hp → Prop, (∀ σ' H', N σ' H' → G σ' H') ∧ R N := ⟨_, fun _ _ z => z, h⟩
theorem x_while {tc : TT} {tb : TS} {D : Ends} (W : Nat → L2.St → Hp → Prop) (m : Nat) (w : W m σ H) (h : ∀ m σ H, W m σ H → tc σ H fun b H1 => if b = true then ∃ N : L2.St → Hp → Prop, (∀ σ' H', N σ' H' → ∃ m', m' < m ∧ W m' σ' H') ∧ tb { D with nx := N, ct := N, bk := D.nx } σ H1 else D.nx σ H1) :
    tWhile tc tb D σ H := ⟨W, ⟨m, w⟩, h⟩
theorem x_part {R : Option Int → Hp → Prop} (q : R (some i) H) : ∃ j, V.int i = .int j ∧ R (some j) H := ⟨i, rfl, q⟩
theorem x_slL {xs : List V} {lo hi : Option Int} (S : Sep H0 ft H l) (n : Nat) (h : l[n]? = some (t, p, .lst xs)) (q : ∀ r H', Sep H0 ft H' ((2, r, .lst (cutV xs lo hi)) :: l) → Q (.ref r) H') : rSlL K (.ref p) lo hi H Q := ⟨p, xs, rfl, S.sl n h, x_new S _ q⟩
/-- a slice of a list of ints -/
def cutI {α : Type} (xs : List α) (lo hi : Option Int) : List α := (xs.drop (HT.sIx xs.length 0 lo)).take (HT.sIx xs.length xs.length hi - HT.sIx xs.length 0 lo)
theorem cutV_map {α : Type} (f : α → V) (xs : List α) (lo hi : Option Int) : cutV (xs.map f) lo hi = (cutI xs lo hi).map f := by
  unfold cutV cutI
  rw [List.length_map, ← List.map_drop, ← List.map_take]
theorem x_slI {cs : List Int} {lo hi : Option Int} (S : Sep H0 ft H l) (n : Nat) (h : l[n]? = some (t, p, .lst (cs.map V.int))) (q : ∀ r H', Sep H0 ft H' ((2, r, .lst ((cutI cs lo hi).map V.int)) :: l) → Q (.ref r) H') : rSlL K (.ref p) lo hi H Q :=
  ⟨p, _, rfl, S.sl n h, by rw [cutV_map]; exact x_new S _ q⟩
theorem cutI_nat {α : Type} (xs : List α) {i j : Int} (h0 : 0 ≤ i) (h1 : i ≤ j) (h2 : j ≤ xs.length) : cutI xs (some i) (some j) = (xs.drop i.toNat).take (j.toNat - i.toNat) := by
  unfold cutI
  have e1 : i = (i.toNat : Int) := by omega
  have e2 : j = (j.toNat : Int) := by omega
  rw [e1, e2, HT.sIx_nat, HT.sIx_nat, Nat.min_eq_left (by omega), Nat.min_eq_left (by omega), Int.toNat_natCast, Int.toNat_natCast]
def rMax2 : List V → Hp → VK → Prop := fun xs H Q => ∃ i j, xs = [.int i, .int j] ∧ Q (.int (max i j)) H
def rMin2 : List V → Hp → VK → Prop := fun xs H Q => ∃ i j, xs = [.int i, .int j] ∧ Q (.int (min i j)) H
theorem cl_max {X : Cx} (hc : X.calm = true) : CallR X (.builtin "max") rMax2 := fun pins s σ H xs us Q I r ⟨i, j, e, q⟩ => call_max2 hc pins s σ H xs us Q I r ⟨i, j, e, by
  have : (if j > i then j else i) = max i j := by split <;> omega
  rw [this]; exact q⟩
theorem cl_min {X : Cx} (hc : X.calm = true) : CallR X (.builtin "min") rMin2 := fun pins s σ H xs us Q I r ⟨i, j, e, q⟩ => call_min2 hc pins s σ H xs us Q I r ⟨i, j, e, by
  have : (if j < i then j else i) = min i j := by split <;> omega
  rw [this]; exact q⟩
theorem x_max (q : Q (.int (max i j)) H) : rMax2 [.int i, .int j] H Q := ⟨i, j, rfl, q⟩
theorem x_min (q : Q (.int (min i j)) H) : rMin2 [.int i, .int j] H Q := ⟨i, j, rfl, q⟩
/-- what the rules ask, under names -/
def rIL (K : PySem.W.Frag) : V → Hp → (It → Hp → Prop) → Prop := fun x H R => ∃ a, x = .ref a ∧ (∃ xs, SqL K H a xs) ∧ R (Itl K a) H
def rIT (K : PySem.W.Frag) : V → Hp → (It → Hp → Prop) → Prop := fun x H R => ∃ a, x = .ref a ∧ (∃ xs, SqT K H a xs) ∧ R (Itt K a) H
def iList1 (K : PySem.W.Frag) (tl : TE) : TI := fun σ H R => tl σ H fun x H1 => rIL K x H1 R
def iTup1 (K : PySem.W.Frag) (tl : TE) : TI := fun σ H R => tl σ H fun x H1 => rIT K x H1 R
theorem pi_list1 {X : Cx} {tg e : Expr} {tl : TE} (h : PE X e tl) : PI X tg e (iList1 X.K tl) := pi_list h
theorem pi_tup1 {X : Cx} {tg e : Expr} {tl : TE} (h : PE X e tl) : PI X tg e (iTup1 X.K tl) := pi_tup h

def rLst : List V → Hp → VK → Prop := fun xs H Q => xs.length ≤ sizeLine ∧ ∀ p, H p = none → Q (.ref p) (upd H p (.lst xs))
def rTup : List V → Hp → VK → Prop := fun xs H Q => xs.length ≤ sizeLine ∧ ∀ p, H p = none → Q (.ref p) (upd H p (.tup xs))
theorem pe_lst1 {X : Cx} {es : List Expr} {t : TA} {pos : Pos} (h : PA X es t) : PE X (.List es pos) (tCB rLst t) := pe_lst h
theorem pe_tup1 {X : Cx} {es : List Expr} {t : TA} {pos : Pos} {x1} (h : PA X es t) : PE X (.Tuple es x1 pos) (tCB rTup t) := pe_tup h
def rFld (K : PySem.W.Frag) (f : Str) : V → Hp → VK → Prop := fun x H Q => ∃ a C dx fs v, x = .ref a ∧ H a = some (.ins C dx fs) ∧ Cls K C ∧ NoAttr K C f ∧ fs.lookup f = some v ∧ Q v H
def rFldA (K : PySem.W.Frag) (f : Str) : V → Hp → (Addr → Addr → V → Prop) → Prop := fun x H R => ∃ a C dx fs v, x = .ref a ∧ H a = some (.ins C dx fs) ∧ Cls K C ∧ NoAttr K C f ∧ fs.lookup f = some v ∧ R a C v
def rPutA (f : Str) (a C : Addr) : V → Hp → (Hp → Prop) → Prop := fun z H R => ∃ dx fs, H a = some (.ins C dx fs) ∧ fs.length < 1000 ∧ R (upd H a (.ins C dx (putF f z fs)))
def rSFld (K : PySem.W.Frag) (f : Str) : V → V → Hp → (Hp → Prop) → Prop := fun x y H R => ∃ a C dx fs, x = .ref a ∧ H a = some (.ins C dx fs) ∧ Cls K C ∧ NoAttr K C f ∧ fs.length < 1000 ∧ R (upd H a (.ins C dx (putF f y fs)))
def sFld1 (K : PySem.W.Frag) (ta tv : TE) (f : Str) : TS := fun D σ H => tv σ H fun y H1 => ta σ H1 fun x H2 => rSFld K f x y H2 fun H3 => D.nx σ H3
def sFldAug1 (K : PySem.W.Frag) (ta tv : TE) (rd : V → V → Hp → VK → Prop) (f : Str) : TS := fun D σ H => ta σ H fun x H1 => rFldA K f x H1 fun a C v => tv σ H1 fun y H2 => rd v y H2 fun z H3 => rPutA f a C z H3 fun H4 => D.nx σ H4
def rMe (C : Addr) (m : Str) : V → Hp → Prop → Prop := fun x H R => ∃ a dx fs, x = .ref a ∧ H a = some (.ins C dx fs) ∧ fs.lookup m = none ∧ R
def tMeth1 (C : Addr) (m : Str) (sp : Sp) (dvs : List V) (E : XK) (ta : TE) (t : TA) : TE := fun σ H Q => ta σ H fun x H1 => rMe C m x H1 (t σ H1 fun vs H2 => sp (x :: (vs ++ dvs)) H2 Q E)
def rDIn : V → V → Hp → VK → Prop := fun y x H Q => ∃ a o, x = .ref a ∧ DGet H a y o ∧ Q (.bl o.isSome) H
def rDNi : V → V → Hp → VK → Prop := fun y x H Q => ∃ a o, x = .ref a ∧ DGet H a y o ∧ Q (.bl (!o.isSome)) H
def rDGet : V → V → Hp → VK → Prop := fun x y H Q => ∃ a v, x = .ref a ∧ DGet H a y (some v) ∧ Q v H
def rDPut : V → V → V → Hp → (Hp → Prop) → Prop := fun x y v H R => ∃ a H4, x = .ref a ∧ DPut H a y v H4 ∧ R H4
def sDPut1 (td ty tv : TE) : TS := fun D σ H => tv σ H fun v H1 => td σ H1 fun x H2 => ty σ H2 fun y H3 => rDPut x y v H3 fun H4 => D.nx σ H4
def rDPop (a : Addr) : V → Hp → VK → Prop := fun y H Q => ∃ kvs k v, H a = some (.dK kvs) ∧ y = kV k ∧ valV kvs k = some v ∧ Q v (upd H a (.dK (dropK kvs k)))
def rIsD : V → Hp → (Addr → Prop) → Prop := fun x H R => ∃ a, x = .ref a ∧ IsD H a ∧ R a
def tDPop (td ty : TE) : TE := fun σ H Q => td σ H fun x H1 => rIsD x H1 fun a => ty σ H1 fun y H2 => rDPop a y H2 Q
section
variable {X : Cx} {CX : CXT} {k j : Nat} {C : Addr} {f m : Str} {sp : Sp} {E : XK} {p pos pos' apos tpos cpos : Pos} {e i value : Expr} {es : List Expr} {td ty tv : TE} {ta : TE} {t : TA}
theorem pe_fld1 (he : PE X e ta) (hb : attributeBase e f X.env (eval e X.env) = eval e X.env) : PE X (.Attribute e f pos) (tUn (rFld X.K f) ta) := pe_fld he hb
theorem ps_fld1 (ha : PE X e ta) (hv : PE X value tv) (hs : swapsWith value (some (.Attribute e f pos')) pos.line X.env = pure false) : PS X (.Assign [.Attribute e f pos'] value pos) (sFld1 X.K ta tv f) := ps_fld ha hv hs
theorem ps_fldaug1 {op : Operator} {rd : V → V → Hp → VK → Prop} (ha : PE X e ta) (hv : PE X value tv) (hop : InOp X op rd) : PS X (.AugAssign (.Attribute e f tpos) op value pos) (sFldAug1 X.K ta tv rd f) := ps_fldaug ha hv hop
theorem pc_din1 (hu : X.A.units + 1 < cLine) (hi : PE X i ty) (ho : PE X e td) : PC X .In i e (tOp rDIn ty td) := pc_din hu hi ho
theorem pc_dni1 (hu : X.A.units + 1 < cLine) (hi : PE X i ty) (ho : PE X e td) : PC X .NotIn i e (tOp rDNi ty td) := pc_dnotin hu hi ho
theorem pe_dget1v (hu : X.A.units + 1 < cLine) (ho : PE X e td) (hi : PE X i ty) (hs : NoSl i) : PE X (.Subscript e i pos) (tOp rDGet td ty) := pe_dget hu ho hi hs
theorem ps_dput1 (hu : X.A.units + 1 < cLine) (ho : PE X e td) (hi : PE X i ty) (hv : PE X value tv) (hs : swapsWith value (some (.Subscript e i pos')) pos.line X.env = pure false) : PS X (.Assign [.Subscript e i pos'] value pos) (sDPut1 td ty tv) := ps_dput hu ho hi hv hs
theorem pe_dpop (ho : PE X e td) (he : PE X i ty) (m : M1 X e "pop" apos i cpos) : PE X (.Call (.Attribute e "pop" apos) [i] [] cpos) (tDPop td ty) := pe_dpop1 ho he m
end
theorem x_lst {xs : List V} (S : Sep H0 ft H l) (hl : xs.length ≤ 100000) (q : ∀ p H', Sep H0 ft H' ((2, p, .lst xs) :: l) → Q (.ref p) H') : rLst xs H Q := ⟨Nat.le_trans hl (by decide), x_new S _ q⟩
theorem x_tup {xs : List V} (S : Sep H0 ft H l) (hl : xs.length ≤ 100000) (q : ∀ p H', Sep H0 ft H' ((2, p, .tup xs) :: l) → Q (.ref p) H') : rTup xs H Q := ⟨Nat.le_trans hl (by decide), x_new S _ q⟩
theorem x_dnew (S : Sep H0 ft H l) (q : ∀ p H', Sep H0 ft H' ((2, p, .dK []) :: l) → Q (.ref p) H') : tDNewK σ H Q := x_new S _ q
def rListOf (K : PySem.W.Frag) : List V → Hp → VK → Prop := fun xs H Q => ∃ p ys, xs = [.ref p] ∧ (SqL K H p ys ∨ SqT K H p ys) ∧ ∀ l, H l = none → Q (.ref l) (upd H l (.lst ys))
theorem cl_list {X : Cx} : CallR X (.type "list") (rListOf X.K) := call_list_of
theorem x_listS {xs : List V} (S : Sep H0 ft H l) (hs : SqL K H p xs) (q : ∀ r H', Sep H0 ft H' ((2, r, .lst xs) :: l) → Q (.ref r) H') : rListOf K [.ref p] H Q := ⟨p, xs, rfl, .inl hs, x_new S _ q⟩
/-- isinstance -/
theorem x_isi {A B : String} {b : Bool} (ty : TyX K H x (.type A)) (h : kitB A B = some b) (q : Q (.bl b) H) : rIsi K [x, .ty B] H Q := ⟨x, .ty B, .type A, .type B, b, rfl, .ty B, ty, kit_ty h, q⟩
theorem cl_isiK {X : Cx} (K : PySem.W.Frag) (h : X.K = K := by rfl) : CallR X (.builtin "isinstance") (rIsi K) := by subst h; exact call_isi
theorem ty_int : TyX K H (.int i) (.type "int") := .base (.int i)
theorem ty_bl {b : Bool} : TyX K H (.bl b) (.type "bool") := .base (.bl b)
theorem ty_str {z : Str} : TyX K H (.str z) (.type "str") := .base (.str z)
theorem ty_non : TyX K H .non (.type "NoneType") := .base .non
theorem ty_tup {xs : List V} (S : Sep H0 ft H l) (n : Nat) (h : l[n]? = some (t, p, .tup xs)) : TyX K H (.ref p) (.type "tuple") := .base (.tup (S.get n h))
theorem ty_lst {xs : List V} (S : Sep H0 ft H l) (n : Nat) (h : l[n]? = some (t, p, .lst xs)) : TyX K H (.ref p) (.type "list") := .base (.lst (S.get n h))
theorem ty_dK {kvs : List (Key × V)} (S : Sep H0 ft H l) (n : Nat) (h : l[n]? = some (t, p, .dK kvs)) : TyX K H (.ref p) (.type "dict") := .base (.dK (S.get n h))
theorem ki_int_int : kitB "int" "int" = some true := by decide +kernel
theorem ki_int_bool : kitB "int" "bool" = some false := by decide +kernel
theorem ki_int_str : kitB "int" "str" = some false := by decide +kernel
theorem ki_int_tuple : kitB "int" "tuple" = some false := by decide +kernel
theorem ki_bool_bool : kitB "bool" "bool" = some true := by decide +kernel
theorem ki_bool_int : kitB "bool" "int" = some true := by decide +kernel
theorem ki_tuple_tuple : kitB "tuple" "tuple" = some true := by decide +kernel
theorem ki_list_list : kitB "list" "list" = some true := by decide +kernel
theorem ki_dict_dict : kitB "dict" "dict" = some true := by decide +kernel
theorem ki_str_str : kitB "str" "str" = some true := by decide +kernel
theorem ki_str_int : kitB "str" "int" = some false := by decide +kernel
theorem ki_NoneType_int : kitB "NoneType" "int" = some false := by decide +kernel
/-! the rules over the written part K, said -/
section
variable {X : Cx} {e : Expr} {tl : TE} {tg : Expr} {f : Str} {pos : Pos}
theorem cl_lenK (K : PySem.W.Frag) (h : X.K = K := by rfl) : CallR X (.builtin "len") (rLen K) := by subst h; exact cl_len
theorem cl_listK (K : PySem.W.Frag) (h : X.K = K := by rfl) : CallR X (.type "list") (rListOf K) := by subst h; exact cl_list
theorem ix_listK (K : PySem.W.Frag) (h : X.K = K := by rfl) : IxR X (rIxL K) := by subst h; exact ix_list
theorem ix_tupK (K : PySem.W.Frag) (h : X.K = K := by rfl) : IxR X (rIxT K) := by subst h; exact ix_tup
theorem sl_listK (K : PySem.W.Frag) (h : X.K = K := by rfl) : SlR X (rSlL K) := by subst h; exact sl_list
theorem sl_tupK (K : PySem.W.Frag) (h : X.K = K := by rfl) : SlR X (rSlT K) := by subst h; exact sl_tup
theorem op_eqDK (K : PySem.W.Frag) (hu : X.A.units + 64 < cLine) (h : X.K = K := by rfl) : OpR X (compareOp .Eq) (rEqD K) := by subst h; exact op_eqD hu
theorem op_neDK (K : PySem.W.Frag) (hu : X.A.units + 64 < cLine) (h : X.K = K := by rfl) : OpR X (compareOp .NotEq) (rNeD K) := by subst h; exact op_neD hu
theorem pe_fldK (K : PySem.W.Frag) (he : PE X e tl) (hb : attributeBase e f X.env (eval e X.env) = eval e X.env := by rfl) (h : X.K = K := by rfl) : PE X (.Attribute e f pos) (tUn (rFld K f) tl) := by subst h; exact pe_fld1 he hb
theorem pi_listK (K : PySem.W.Frag) (he : PE X e tl) (h : X.K = K := by rfl) : PI X tg e (iList1 K tl) := by subst h; exact pi_list1 he
theorem pi_tupK (K : PySem.W.Frag) (he : PE X e tl) (h : X.K = K := by rfl) : PI X tg e (iTup1 K tl) := by subst h; exact pi_tup1 he
end
theorem x_ilist {xs : List V} {R : It → Hp → Prop} (S : Sep H0 ft H l) (n : Nat) (h : l[n]? = some (t, p, .lst xs)) (q : R (Itl K p) H) : rIL K (.ref p) H R := ⟨p, rfl, ⟨xs, S.sl n h⟩, q⟩
theorem x_itup {xs : List V} {R : It → Hp → Prop} (S : Sep H0 ft H l) (n : Nat) (h : l[n]? = some (t, p, .tup xs)) (q : R (Itt K p) H) : rIT K (.ref p) H R := ⟨p, rfl, ⟨xs, S.st n h⟩, q⟩
/-- dicts -/
theorem x_din {kvs : List (Key × V)} {k : Key} (S : Sep H0 ft H l) (n : Nat) (h : l[n]? = some (t, p, .dK kvs)) (q : Q (.bl (valV kvs k).isSome) H) : rDIn (kV k) (.ref p) H Q := ⟨p, _, rfl, DGet.k (S.get n h), q⟩
theorem x_dni {kvs : List (Key × V)} {k : Key} (S : Sep H0 ft H l) (n : Nat) (h : l[n]? = some (t, p, .dK kvs)) (q : Q (.bl (!(valV kvs k).isSome)) H) : rDNi (kV k) (.ref p) H Q := ⟨p, _, rfl, DGet.k (S.get n h), q⟩
theorem x_dget {kvs : List (Key × V)} {k : Key} (S : Sep H0 ft H l) (n : Nat) (h : l[n]? = some (t, p, .dK kvs)) (hv : valV kvs k = some v) (q : Q v H) : rDGet (.ref p) (kV k) H Q := ⟨p, v, rfl, by rw [← hv]; exact DGet.k (S.get n h), q⟩
theorem x_dput {kvs : List (Key × V)} {k : Key} {R : Hp → Prop} (S : Sep H0 ft H l) (n : Nat) (h : l[n]? = some (t, p, .dK kvs)) (hl : kvs.length < 100000) (q : ∀ H', Sep H0 ft H' (l.set n (t, p, .dK (putK kvs k v))) → R H')
    (ht : t = 1 ∨ t = 2 := by first | exact .inl rfl | exact .inr rfl) : rDPut (.ref p) (kV k) v H R := ⟨p, _, rfl, DPut.k (S.get n h) (Nat.lt_of_lt_of_le hl (by decide)), q _ (S.put n _ h ht)⟩
theorem x_isD {kvs : List (Key × V)} {R : Addr → Prop} (S : Sep H0 ft H l) (n : Nat) (h : l[n]? = some (t, p, .dK kvs)) (q : R p) : rIsD (.ref p) H R := ⟨p, rfl, .inl ⟨_, .inl (S.get n h)⟩, q⟩
theorem x_dpop {kvs : List (Key × V)} {k : Key} (S : Sep H0 ft H l) (n : Nat) (h : l[n]? = some (t, p, .dK kvs)) (hv : valV kvs k = some v) (q : ∀ H', Sep H0 ft H' (l.set n (t, p, .dK (dropK kvs k))) → Q v H')
    (ht : t = 1 ∨ t = 2 := by first | exact .inl rfl | exact .inr rfl) : rDPop p (kV k) H Q := ⟨kvs, k, v, S.get n h, rfl, hv, q _ (S.put n _ h ht)⟩
/-- fields -/
theorem x_fld {C dx : Addr} {fs : List (Str × V)} {f : Str} (S : Sep H0 ft H l) (n : Nat) (h : l[n]? = some (t, p, .ins C dx fs)) (c : Cls K C) (na : NoAttr K C f) (hf : fs.lookup f = some v) (q : Q v H) : rFld K f (.ref p) H Q := ⟨p, C, dx, fs, v, rfl, S.get n h, c, na, hf, q⟩
theorem x_fldA {C dx : Addr} {fs : List (Str × V)} {f : Str} {R : Addr → Addr → V → Prop} (S : Sep H0 ft H l) (n : Nat) (h : l[n]? = some (t, p, .ins C dx fs)) (c : Cls K C) (na : NoAttr K C f) (hf : fs.lookup f = some v) (q : R p C v) : rFldA K f (.ref p) H R := ⟨p, C, dx, fs, v, rfl, S.get n h, c, na, hf, q⟩
theorem x_sfld {C dx : Addr} {fs fs' : List (Str × V)} {f : Str} {R : Hp → Prop} (S : Sep H0 ft H l) (n : Nat) (h : l[n]? = some (t, p, .ins C dx fs)) (c : Cls K C) (na : NoAttr K C f) (e : putF f v fs = fs') (hl : fs.length < 1000) (q : ∀ H', Sep H0 ft H' (l.set n (t, p, .ins C dx fs')) → R H')
    (ht : t = 1 ∨ t = 2 := by first | exact .inl rfl | exact .inr rfl) : rSFld K f (.ref p) v H R :=
  ⟨p, C, dx, fs, rfl, S.get n h, c, na, hl, by rw [e]; exact q _ (S.put n _ h ht)⟩
theorem x_augf {C dx : Addr} {fs fs' : List (Str × V)} {f : Str} {R : Hp → Prop} (S : Sep H0 ft H l) (n : Nat) (h : l[n]? = some (t, p, .ins C dx fs)) (e : putF f v fs = fs') (hl : fs.length < 1000) (q : ∀ H', Sep H0 ft H' (l.set n (t, p, .ins C dx fs')) → R H')
    (ht : t = 1 ∨ t = 2 := by first | exact .inl rfl | exact .inr rfl) : rPutA f p C v H R :=
  ⟨dx, fs, S.get n h, hl, by rw [e]; exact q _ (S.put n _ h ht)⟩
theorem x_meth {C dx : Addr} {fs : List (Str × V)} {m : Str} {R : Prop} (S : Sep H0 ft H l) (n : Nat) (h : l[n]? = some (t, p, .ins C dx fs)) (hl : fs.lookup m = none) (q : R) : rMe C m (.ref p) H R := ⟨p, dx, fs, rfl, S.get n h, hl, q⟩
theorem x_add (q : Q (.int (i + j)) H) : rAdd (.int i) (.int j) H Q := ⟨i, j, rfl, rfl, q⟩
theorem x_sub (q : Q (.int (i - j)) H) : rSub (.int i) (.int j) H Q := ⟨i, j, rfl, rfl, q⟩
/-- lists' methods -/
theorem x_app {xs : List V} (S : Sep H0 ft H l) (n : Nat) (h : l[n]? = some (t, p, .lst xs)) (hl : xs.length < 100000) (q : ∀ H', Sep H0 ft H' (l.set n (t, p, .lst (xs ++ [v]))) → Q .non H') (ht : t = 1 ∨ t = 2 := by first | exact .inl rfl | exact .inr rfl) :
    rAppend (.ref p) [v] H Q := ⟨p, xs, v, rfl, rfl, S.get n h, Nat.lt_of_lt_of_le hl (by decide), q _ (S.put n _ h ht)⟩
theorem x_ty {xs : List V} (S : Sep H0 ft H l) (n : Nat) (h : l[n]? = some (t, p, .lst xs)) : tyV K "list" (.ref p) H := .inl ⟨rfl, xs, S.sl n h⟩
def rInsert : V → List V → Hp → VK → Prop := fun x vs H Q => ∃ (l : Addr) (xs : List V) (i : Int) (y : V), x = .ref l ∧ vs = [.int i, y] ∧ H l = some (.lst xs) ∧ xs.length < sizeLine ∧ 0 ≤ i ∧ i < 2 ^ 63 ∧ Q .non (upd H l (.lst (xs.take i.toNat ++ [y] ++ xs.drop i.toNat)))
theorem mt_ins {X : Cx} : MtR X "list.insert" rInsert := mt_insert
theorem x_ins {xs : List V} (S : Sep H0 ft H l) (n : Nat) (h : l[n]? = some (t, p, .lst xs)) (hl : xs.length < 100000) (h0 : 0 ≤ i) (h1 : i < 2 ^ 63) (q : ∀ H', Sep H0 ft H' (l.set n (t, p, .lst (xs.take i.toNat ++ [v] ++ xs.drop i.toNat))) → Q .non H')
    (ht : t = 1 ∨ t = 2 := by first | exact .inl rfl | exact .inr rfl) : rInsert (.ref p) [.int i, v] H Q := ⟨p, xs, i, v, rfl, rfl, S.get n h, Nat.lt_of_lt_of_le hl (by decide), h0, h1, q _ (S.put n _ h ht)⟩
/-- a list of ints with one put in -/
def insAt {α : Type} (ys : List α) (i : Int) (v : α) : List α := ys.take i.toNat ++ [v] ++ ys.drop i.toNat
theorem mem_insAt {α : Type} {ys : List α} {i : Int} {v x : α} : x ∈ insAt ys i v ↔ x = v ∨ x ∈ ys := by
  unfold insAt
  rw [List.append_assoc, List.mem_append, List.mem_append, List.mem_singleton]
  constructor
  · rintro (h | h | h)
    · exact .inr (List.mem_of_mem_take h)
    · exact .inl h
    · exact .inr (List.mem_of_mem_drop h)
  · rintro (h | h)
    · exact .inr (.inl h)
    · rw [← List.take_append_drop i.toNat ys] at h
      rcases List.mem_append.mp h with h | h
      · exact .inl h
      · exact .inr (.inr h)
theorem len_insAt {α : Type} {ys : List α} {i : Int} {v : α} : (insAt ys i v).length = ys.length + 1 := by
  unfold insAt
  rw [List.length_append, List.length_append, List.length_take, List.length_drop, List.length_singleton]
  omega
theorem insAt_map {α : Type} (f : α → V) (ys : List α) (i : Int) (v : α) : (ys.map f).take i.toNat ++ [f v] ++ (ys.map f).drop i.toNat = (insAt ys i v).map f := by
  unfold insAt
  rw [List.map_append, List.map_append, List.map_take, List.map_drop, List.map_singleton]
theorem x_insI {cs : List Int} (S : Sep H0 ft H l) (n : Nat) (h : l[n]? = some (t, p, .lst (cs.map V.int))) (hl : cs.length < 100000) (h0 : 0 ≤ i) (h1 : i < 2 ^ 63) (q : ∀ H', Sep H0 ft H' (l.set n (t, p, .lst ((insAt cs i j).map V.int))) → Q .non H')
    (ht : t = 1 ∨ t = 2 := by first | exact .inl rfl | exact .inr rfl) : rInsert (.ref p) [.int i, .int j] H Q := by
  refine x_ins S n h (by rw [List.length_map]; exact hl) h0 h1 (fun H' S' => q H' ?_) ht
  rw [insAt_map] at S'
  exact S'
/-- data compared -/
theorem dp_ints {ns : List Int} : DpAll K H (ns.map V.int) (ns.map PyData.int) := by
  induction ns with
  | nil => exact .nil
  | cons n r ih => exact .cons (.int n) ih
theorem lay_ints : ∀ ns : List Int, PyData.canLayAll0 (ns.map PyData.int) = true
  | [] => rfl
  | n :: r => lay_ints r
theorem dep_ints : ∀ ns : List Int, PyData.depthAll (ns.map PyData.int) = 0
  | [] => rfl
  | n :: r => by rw [List.map_cons, PyData.depthAll, dep_ints r]; rfl
theorem sh_list (ns : List Int) : SeqAt.shaped (.list (ns.map PyData.int)) = true := by
  unfold SeqAt.shaped
  rw [show PyData.canLay0 (.list (ns.map PyData.int)) = true from lay_ints ns, PyData.depth, dep_ints]
  rfl
theorem sh_tup (ns : List Int) : SeqAt.shaped (.tuple (ns.map PyData.int)) = true := by
  unfold SeqAt.shaped
  rw [show PyData.canLay0 (.tuple (ns.map PyData.int)) = true from lay_ints ns, PyData.depth, dep_ints]
  rfl
theorem eqv_list (ns ms : List Int) : PyData.eqv (.list (ns.map PyData.int)) (.list (ms.map PyData.int)) = decide (ns = ms) := PySem.W.Datum.eqv (α := List Int) ns ms
theorem eqv_tup (ns ms : List Int) : PyData.eqv (.tuple (ns.map PyData.int)) (.tuple (ms.map PyData.int)) = decide (ns = ms) := by
  have := PySem.W.Datum.eqv (α := PySem.W.Tup Int) ⟨ns⟩ ⟨ms⟩
  rw [show PyData.eqv (.tuple (ns.map PyData.int)) (.tuple (ms.map PyData.int)) = decide ((⟨ns⟩ : PySem.W.Tup Int) = ⟨ms⟩) from this]
  exact decide_eq_decide.mpr ⟨fun e => congrArg PySem.W.Tup.items e, fun e => by rw [e]⟩
theorem x_neSq {q : Addr} {xs ys : List Int} (hx : SqL K H p (xs.map V.int)) (hy : SqL K H q (ys.map V.int)) (k : Q (.bl (!decide (xs = ys))) H) : rNeD K (.ref p) (.ref q) H Q :=
  ⟨_, _, .lst hx dp_ints, .lst hy dp_ints, sh_list xs, sh_list ys, by rw [eqv_list]; exact k⟩
theorem x_neL {q : Addr} {xs ys : List Int} {t' : Nat} (S : Sep H0 ft H l) (n m : Nat) (h : l[n]? = some (t, p, .lst (xs.map V.int))) (h' : l[m]? = some (t', q, .lst (ys.map V.int))) (k : Q (.bl (!decide (xs = ys))) H) : rNeD K (.ref p) (.ref q) H Q :=
  x_neSq (S.sl n h) (S.sl m h') k
theorem x_eqP {q : Addr} {a b c d : Int} {t' : Nat} (S : Sep H0 ft H l) (n m : Nat) (h : l[n]? = some (t, p, .tup [.int a, .int b])) (h' : l[m]? = some (t', q, .tup [.int c, .int d])) (k : Q (.bl (decide (([a, b] : List Int) = [c, d]))) H) : rEqD K (.ref p) (.ref q) H Q :=
  ⟨_, _, .tup (S.st n h) (dp_ints (ns := [a, b])), .tup (S.st m h') (dp_ints (ns := [c, d])), sh_tup _, sh_tup _, by rw [eqv_tup]; exact k⟩
theorem x_neP {q : Addr} {a b c d : Int} {t' : Nat} (S : Sep H0 ft H l) (n m : Nat) (h : l[n]? = some (t, p, .tup [.int a, .int b])) (h' : l[m]? = some (t', q, .tup [.int c, .int d])) (k : Q (.bl (!decide (([a, b] : List Int) = [c, d]))) H) : rNeD K (.ref p) (.ref q) H Q :=
  ⟨_, _, .tup (S.st n h) (dp_ints (ns := [a, b])), .tup (S.st m h') (dp_ints (ns := [c, d])), sh_tup _, sh_tup _, by rw [eqv_tup]; exact k⟩
end
/-! ### defs as facts -/
structure Cal (P : Program) (w : World) (K : PySem.W.Frag) (mg : Str → Option Value) (base : Heap) (CX : CXT) (k : Nat) (x : Str) (sp : Sp) : Prop where
  ex : ∃ (f : Addr) (fd : FuncData) (ps : List Str), FnOk P w K mg base CX k f fd ps sp ∧ mg x = some (.ref f) ∧ PySem.W.keepIn K (.ref f) = true ∧ Binds K fd ps []
structure Met (P : Program) (w : World) (K : PySem.W.Frag) (mg : Str → Option Value) (base : Heap) (CX : CXT) (k : Nat) (C : Addr) (m : Str) (sp : Sp) : Prop where
  ex : ∃ (f : Addr) (fd : FuncData) (ps : List Str), Cls K C ∧ L2.Meth K C m f ∧ FnOk P w K mg base CX k f fd ps sp ∧ Binds K fd ps []
/-- C(k = v, ..): all keyword-only, no other parameters -/
structure MakK (P : Program) (w : World) (K : PySem.W.Frag) (mg : Str → Option Value) (base : Heap) (CX : CXT) (k : Nat) (x : Str) (C : Addr) (ks : List Str) (sp : Sp) : Prop where
  ex : ∃ (f : Addr) (fd : FuncData) (ps : List Str) (g : List Value → List Value → List Value), Mk K C f ∧ FnOk P w K mg base CX k f fd ps sp ∧ mg x = some (.ref C) ∧ KBn K fd ps 1 ks g (fun vs zs => vs ++ zs)
section
variable {X : Cx} {CX : CXT} {k j : Nat} {C : Addr} {x m : Str} {sp : Sp} {E : XK} {p pos apos : Pos} {e o : Expr} {es : List Expr} {kws : List Keyword} {ks : List Str} {ta : TE} {t tk : TA}
theorem pe_c (c : Cal X.prog X.w X.K X.mg X.base CX k x sp) (hr : Room j X.A) (hk : k ≤ j) (hg : Gl X x) (hx : Passes CX X E) (ha : PA X (e :: es) t)
    (hdb : (x == ("__debug__" : Str)) = false := by decide) (he : starEach (e :: es) X.env = (false, eval e X.env) :: starEach es X.env := by rfl) (hpl : (backTo pos (starEach es X.env)).any (·.1) = false := by rfl) :
    PE X (.Call (.Name x p) (e :: es) [] pos) (tCall sp [] E t) := by
  obtain ⟨f, fd, ps, F, hm, kp, b⟩ := c.ex
  exact pe_call F (hr.mono hk) hg hm kp b .nil hx ha hdb he hpl
theorem pe_mt {pl : Sem Bool} (c : Met X.prog X.w X.K X.mg X.base CX k C m sp) (hr : Room j X.A) (hk : k ≤ j) (hx : Passes CX X E) (he : PE X o ta) (ha : PA X (e :: es) t)
    (hst : starEach (e :: es) X.env = (false, eval e X.env) :: starEach es X.env := by rfl) (hpl : (backTo pos (starEach es X.env)).any (·.1) = false := by rfl)
    (ht : eval (.Call (.Attribute o m apos) (e :: es) [] pos) X.env = (do
      let ov ← eval o X.env
      standAt apos.atName
      let (f, first) ← holding [ov] (getMethod ov m pl)
      callWith pos f first (backTo pos (starEach (e :: es) X.env)) (backToKw pos (keywordEach [] X.env))) := by rfl) :
    PE X (.Call (.Attribute o m apos) (e :: es) [] pos) (tMeth1 C m sp [] E ta t) := by
  obtain ⟨f, fd, ps, hc, hm, F, b⟩ := c.ex
  exact pe_meth (pl := pl) he hc hm F (hr.mono hk) b .nil hx ha hst hpl ht
theorem pe_mt0 {pl : Sem Bool} (c : Met X.prog X.w X.K X.mg X.base CX k C m sp) (hr : Room j X.A) (hk : k ≤ j) (hx : Passes CX X E) (he : PE X o ta)
    (ht : eval (.Call (.Attribute o m apos) [] [] pos) X.env = (do
      let ov ← eval o X.env
      standAt apos.atName
      let (f, first) ← holding [ov] (getMethod ov m pl)
      callWith pos f first (backTo pos (starEach [] X.env)) (backToKw pos (keywordEach [] X.env))) := by rfl) :
    PE X (.Call (.Attribute o m apos) [] [] pos) (tMeth1 C m sp [] E ta tNil) := by
  obtain ⟨f, fd, ps, hc, hm, F, b⟩ := c.ex
  exact pe_meth0 (pl := pl) he hc hm F (hr.mono hk) b .nil hx ht
def rMkK (C : Addr) (n m : Nat) (sp : Sp) (gV : List V → List V → List V) (E : XK) : List V → List V → Hp → VK → Prop := fun vs zs H Q => vs.length = n ∧ zs.length = m ∧ ∀ x dx, H x = none → H dx = none → dx ≠ x →
  sp (gV (.ref x :: vs) zs) (upd (upd H dx (.own x)) x (.ins C dx [])) (fun v H3 => v = .non ∧ Q (.ref x) H3) E
def tMakeK1 (C : Addr) (n m : Nat) (sp : Sp) (gV : List V → List V → List V) (E : XK) (t tk : TA) : TE := fun σ H Q => t σ H fun vs H1 => tk σ H1 fun zs H2 => rMkK C n m sp gV E vs zs H2 Q
theorem pe_mkK (c : MakK X.prog X.w X.K X.mg X.base CX k x C ks sp) (hr : Room j X.A) (hk : k + 1 ≤ j) (hg : Gl X x) (hx : Passes CX X E) (hkw : PK X kws tk)
    (hall : (backToKw pos (keywordEach kws X.env)).all (·.1.isSome) = true := by rfl) (hks : (backToKw pos (keywordEach kws X.env)).filterMap (·.1) = ks := by rfl) (hdb : (x == ("__debug__" : Str)) = false := by decide)
    (hpl : ((backTo pos (starEach [] X.env)).any (·.1) || (backToKw pos (keywordEach kws X.env)).any (·.1.isNone)) = false := by rfl) :
    PE X (.Call (.Name x p) [] kws pos) (tMakeK1 C 0 ks.length sp (fun vs zs => vs ++ zs) E tNil tk) := by
  obtain ⟨f, fd, ps, g, M, F, hm, b⟩ := c.ex
  exact pe_makeK0 M F (hr.mono hk) hg hm b hx hkw hall hks hdb hpl
end
/-! ### calls by keywords -/
/-- the keywords' values in the parameters' order -/
def kwp (is : List Nat) {α : Type} (ws : List α) : List α := is.filterMap (ws[·]?)
theorem kwp_vals : ∀ (is : List Nat) {zs : List V} {ws : List Value}, L2.Vals zs ws → L2.Vals (kwp is zs) (kwp is ws)
  | [], _, _, _ => .nil
  | i :: r, zs, ws, h => by
    unfold kwp
    cases e : zs[i]? with
    | none =>
      rw [List.filterMap_cons_none e, List.filterMap_cons_none (h.none_of e)]
      exact kwp_vals r h
    | some v =>
      obtain ⟨u, e2, rv⟩ := h.get e
      rw [List.filterMap_cons_some e, List.filterMap_cons_some e2]
      exact .cons rv (kwp_vals r h)
/-- o.m(k = v, ..) -/
structure MetK (P : Program) (w : World) (K : PySem.W.Frag) (mg : Str → Option Value) (base : Heap) (CX : CXT) (k : Nat) (C : Addr) (m : Str) (ks : List Str) (is : List Nat) (sp : Sp) : Prop where
  ex : ∃ (f : Addr) (fd : FuncData) (ps : List Str), Cls K C ∧ L2.Meth K C m f ∧ FnOk P w K mg base CX k f fd ps sp ∧ KBn K fd ps 1 ks (fun us ws => us ++ kwp is ws) (fun vs zs => vs ++ kwp is zs)
/-- f(k = v, ..) -/
structure CalK (P : Program) (w : World) (K : PySem.W.Frag) (mg : Str → Option Value) (base : Heap) (CX : CXT) (k : Nat) (x : Str) (ks : List Str) (is : List Nat) (sp : Sp) : Prop where
  ex : ∃ (f : Addr) (fd : FuncData) (ps : List Str), FnOk P w K mg base CX k f fd ps sp ∧ mg x = some (.ref f) ∧ PySem.W.keepIn K (.ref f) = true ∧ KBn K fd ps 0 ks (fun us ws => us ++ kwp is ws) (fun vs zs => vs ++ kwp is zs)
def tMethK1 (C : Addr) (m : Str) (n : Nat) (is : List Nat) (sp : Sp) (E : XK) (ta : TE) (tk : TA) : TE := fun σ H Q => ta σ H fun x H1 => rMe C m x H1 (tk σ H1 fun zs H2 => zs.length = n ∧ sp ([x] ++ kwp is zs) H2 Q E)
def tCallK1 (n : Nat) (is : List Nat) (sp : Sp) (E : XK) (tk : TA) : TE := fun σ H Q => tk σ H fun zs H2 => zs.length = n ∧ sp ([] ++ kwp is zs) H2 Q E
section
variable {X : Cx} {CX : CXT} {k j : Nat} {C : Addr} {x m : Str} {sp : Sp} {E : XK} {p pos apos : Pos} {e o : Expr} {kws : List Keyword} {ks : List Str} {is : List Nat} {ta : TE} {t tk : TA}
theorem pe_mtK {pl : Sem Bool} (c : MetK X.prog X.w X.K X.mg X.base CX k C m ks is sp) (hr : Room j X.A) (hk : k ≤ j) (hx : Passes CX X E) (he : PE X o ta) (hkw : PK X kws tk)
    (hall : (backToKw pos (keywordEach kws X.env)).all (·.1.isSome) = true := by rfl) (hks : (backToKw pos (keywordEach kws X.env)).filterMap (·.1) = ks := by rfl)
    (hpl : ((backTo pos (starEach [] X.env)).any (·.1) || (backToKw pos (keywordEach kws X.env)).any (·.1.isNone)) = false := by rfl)
    (ht : eval (.Call (.Attribute o m apos) [] kws pos) X.env = (do
      let ov ← eval o X.env
      standAt apos.atName
      let (f, first) ← holding [ov] (getMethod ov m pl)
      callWith pos f first (backTo pos (starEach [] X.env)) (backToKw pos (keywordEach kws X.env))) := by rfl) :
    PE X (.Call (.Attribute o m apos) [] kws pos) (tMethK1 C m ks.length is sp E ta tk) := by
  obtain ⟨f, fd, ps, c1, hm, F, b⟩ := c.ex
  refine ⟨fun pins s σ H Q I h => ?_⟩
  refine PySem.W.methodCall_KW (pl := pl) (thn (he.run pins s σ H _ I h) fun u s1 ⟨x, H1, I1, rx, a, dx, fs, ex, ea, l, q⟩ => ?_) ht
  subst ex
  obtain rfl : u = Value.ref a := rx
  refine getmeth_ok I1 ea c1 hm l ?_
  refine PySem.W.callWith_KW0 (first := [.ref a]) (h₀ := X.base) I.ok.mod.kin hm.kp hall (thn (hkw.run pos pins s1 σ H1 _ I1 q) fun ws s2 ⟨zs, H2, I2, rz, l2, q2⟩ => ⟨I2.kIn, ?_⟩) hpl
  rw [hks]
  exact run_fnN (us := [.ref a]) (vs := [.ref a]) F (hr.mono hk) b hx I2 (.cons rfl .nil) rz rfl l2 q2
theorem pe_ck (c : CalK X.prog X.w X.K X.mg X.base CX k x ks is sp) (hr : Room j X.A) (hk : k ≤ j) (hg : Gl X x) (hx : Passes CX X E) (hkw : PK X kws tk)
    (hall : (backToKw pos (keywordEach kws X.env)).all (·.1.isSome) = true := by rfl) (hks : (backToKw pos (keywordEach kws X.env)).filterMap (·.1) = ks := by rfl) (hdb : (x == ("__debug__" : Str)) = false := by decide)
    (hpl : ((backTo pos (starEach [] X.env)).any (·.1) || (backToKw pos (keywordEach kws X.env)).any (·.1.isNone)) = false := by rfl) :
    PE X (.Call (.Name x p) [] kws pos) (tCallK1 ks.length is sp E tk) := by
  obtain ⟨f, fd, ps, F, hm, kp, b⟩ := c.ex
  refine ⟨fun pins s σ H Q I h => ?_⟩
  refine wpAny_Call_Name_kw (ld_glob I hg hm ?_ hdb)
  refine PySem.W.callWith_KW0 (h₀ := X.base) I.ok.mod.kin kp hall (thn (hkw.run pos pins s σ H _ I h) fun ws s2 ⟨zs, H2, I2, rz, l2, q2⟩ => ⟨I2.kIn, ?_⟩) hpl
  rw [hks]
  exact run_fnN (us := []) (vs := []) F (hr.mono hk) b hx I2 .nil rz rfl l2 q2
end
/-- C(): every keyword-only parameter by its default -/
structure MakD (P : Program) (w : World) (K : PySem.W.Frag) (mg : Str → Option Value) (base : Heap) (CX : CXT) (k : Nat) (x : Str) (C : Addr) (dvs : List V) (sp : Sp) : Prop where
  ex : ∃ (f : Addr) (fd : FuncData) (ps : List Str) (ds : List Value), Mk K C f ∧ FnOk P w K mg base CX k f fd ps sp ∧ mg x = some (.ref C) ∧ Binds K fd ps ds ∧ L2.Vals dvs ds
def rMk0 (C : Addr) (sp : Sp) (dvs : List V) (E : XK) : Hp → VK → Prop := fun H Q => ∀ x dx, H x = none → H dx = none → dx ≠ x → sp (.ref x :: ([] ++ dvs)) (upd (upd H dx (.own x)) x (.ins C dx [])) (fun v H2 => v = .non ∧ Q (.ref x) H2) E
def tMk0 (C : Addr) (sp : Sp) (dvs : List V) (E : XK) : TE := fun _ H Q => rMk0 C sp dvs E H Q
theorem pe_mkD {X : Cx} {CX : CXT} {k j : Nat} {C : Addr} {x : Str} {sp : Sp} {E : XK} {p pos : Pos} {dvs : List V} (c : MakD X.prog X.w X.K X.mg X.base CX k x C dvs sp) (hr : Room j X.A) (hk : k + 1 ≤ j) (hg : Gl X x) (hx : Passes CX X E) (hdb : (x == ("__debug__" : Str)) = false := by decide) :
    PE X (.Call (.Name x p) [] [] pos) (tMk0 C sp dvs E) := by
  obtain ⟨f, fd, ps, ds, M, F, hm, b, d⟩ := c.ex
  exact pe_make0 M F (hr.mono hk) hg hm b d hx hdb
section
variable {H0 H : Hp} {ft : List Addr} {l : List Cell} {t : Nat} {a p C : Addr} {o : HO} {c : Cell}
theorem Sep.drop1 (S : Sep H0 ft H (c :: l)) : Sep H0 ft H l :=
  ⟨(List.nodup_cons.mp S.nd).2, fun d h => S.rd d (List.mem_cons_of_mem _ h), S.fr, fun d h => S.wr d (List.mem_cons_of_mem _ h), fun d h => S.nw d (List.mem_cons_of_mem _ h), S.ex⟩
theorem Sep.drop2 {d : Cell} (S : Sep H0 ft H (d :: c :: l)) : Sep H0 ft H (d :: l) := by
  obtain ⟨n1, n2⟩ := List.nodup_cons.mp S.nd
  exact ⟨List.nodup_cons.mpr ⟨fun h => n1 (List.mem_cons_of_mem _ h), (List.nodup_cons.mp n2).2⟩, fun e h => S.rd e ((List.mem_cons.mp h).elim (fun z => z ▸ List.mem_cons_self) fun h => List.mem_cons_of_mem _ (List.mem_cons_of_mem _ h)), S.fr,
    fun e h => S.wr e ((List.mem_cons.mp h).elim (fun z => z ▸ List.mem_cons_self) fun h => List.mem_cons_of_mem _ (List.mem_cons_of_mem _ h)),
    fun e h => S.nw e ((List.mem_cons.mp h).elim (fun z => z ▸ List.mem_cons_self) fun h => List.mem_cons_of_mem _ (List.mem_cons_of_mem _ h)), S.ex⟩
/-- a new instance, ahead of its __init__ -/
theorem Sep.made {x dx : Addr} (S : Sep H0 ft H l) (hx : H x = none) (hd : H dx = none) (n : dx ≠ x) : Sep H0 ft (upd (upd H dx (.own x)) x (.ins C dx [])) ((2, x, .ins C dx []) :: l) :=
  ((S.new hd (.own x)).new (by rw [upd_ne n.symm]; exact hx) (.ins C dx [])).drop2
/-- a new cell that a call has laid -/
theorem Sep.got {H' : Hp} {l' : List Cell} (S : Sep H0 ft H l) (S' : Sep H0 ft H' l') (e : l'.map (·.2.1) = l.map (·.2.1)) (hn : H p = none) (hp : H' p = some o) : Sep H0 ft H' ((2, p, o) :: l') := by
  refine S'.add 2 hp (fun c hc z => ?_) (fun e => by cases e) fun _ => S.none0 hn
  have : c.2.1 ∈ l.map (·.2.1) := by rw [← e]; exact List.mem_map.mpr ⟨c, hc, rfl⟩
  obtain ⟨d, hd, ed⟩ := List.mem_map.mp this
  have := S.rd d hd
  rw [ed, z, hn] at this; cases this
theorem map_set {i : Nat} {o' : HO} (h : l[i]? = some (t, a, o)) : (l.set i (t, a, o')).map (·.2.1) = l.map (·.2.1) := by
  rw [List.map_set]
  have : (l.map (·.2.1))[i]? = some a := by rw [List.getElem?_map, h]; rfl
  obtain ⟨x, e⟩ := List.getElem?_eq_some_iff.mp this
  rw [← e]
  exact List.set_getElem_self x
end
/-- tests -/
theorem ited {p A B : Prop} [Decidable p] (h1 : p → A) (h2 : ¬ p → B) : if decide p = true then A else B := by
  by_cases h : p
  · rw [decide_eq_true h, if_pos rfl]; exact h1 h
  · rw [decide_eq_false h, if_neg Bool.false_ne_true]; exact h2 h
theorem itend {p A B : Prop} [Decidable p] (h1 : ¬ p → A) (h2 : p → B) : if (!decide p) = true then A else B := by
  by_cases h : p
  · rw [decide_eq_true h]; exact h2 h
  · rw [decide_eq_false h]; exact h1 h
theorem iteq {i j : Int} {A B : Prop} (h1 : i = j → A) (h2 : i ≠ j → B) : if decide (V.int i = V.int j) = true then A else B := ited (fun h => h1 (V.int.inj h)) fun h => h2 fun e => h (by rw [e])
theorem itne {i j : Int} {A B : Prop} (h1 : i ≠ j → A) (h2 : i = j → B) : if (!decide (V.int i = V.int j)) = true then A else B := itend (fun h => h1 fun e => h (by rw [e])) fun h => h2 (V.int.inj h)
theorem iteb {b : Bool} {A B : Prop} (h1 : b = true → A) (h2 : b = false → B) : if b = true then A else B := by
  cases b with
  | true => rw [if_pos rfl]; exact h1 rfl
  | false => rw [if_neg Bool.false_ne_true]; exact h2 rfl
theorem itnb {b : Bool} {A B : Prop} (h1 : b = false → A) (h2 : b = true → B) : if (!b) = true then A else B := by
  cases b with
  | true => exact ite2 (fun h => nomatch h) fun _ => h2 rfl
  | false => exact ite2 (fun _ => h1 rfl) fun h => absurd rfl h
theorem itnn {b : Bool} {A B : Prop} (h : if b = true then A else B) : if (!(!b)) = true then A else B := by rw [Bool.not_not]; exact h
theorem iteSome {v : Option V} {A B : Prop} (h1 : ∀ w, v = some w → A) (h2 : v = none → B) : if v.isSome = true then A else B := by
  cases v with
  | none => exact ite2 (fun h => nomatch h) fun _ => h2 rfl
  | some w => exact ite2 (fun _ => h1 w rfl) fun h => absurd rfl h
theorem iteNone {v : Option V} {A B : Prop} (h1 : v = none → A) (h2 : ∀ w, v = some w → B) : if (!v.isSome) = true then A else B := by
  cases v with
  | none => exact ite2 (fun _ => h1 rfl) fun h => absurd rfl h
  | some w => exact ite2 (fun h => nomatch h) fun _ => h2 w rfl
theorem mul_bd {a b A B : Int} (h0 : 0 ≤ a) (h1 : a < A) (h2 : 0 ≤ b) (h3 : b < B) : 0 ≤ a * b ∧ a * b < A * B :=
  ⟨Int.mul_nonneg h0 h2, Int.lt_of_le_of_lt (Int.mul_le_mul_of_nonneg_left (Int.le_of_lt h3) h0) (Int.mul_lt_mul_of_pos_right h1 (by omega))⟩
theorem pos_lt {x y : Int} (h : 0 < x) : y % x < x := Int.emod_lt_of_pos y h
theorem mod_nn {x y : Int} (h : 0 < x) : 0 ≤ y % x := Int.emod_nonneg y (by omega)
/-! ### calls that change several cells -/
section
variable {H0 H H' : Hp} {ft ft' : List Addr} {l l' : List Cell}
/-- the cells ahead of a call, tagged anew -/
theorem Sep.retag (S : Sep H0 ft H l) (e : l'.map (·.2) = l.map (·.2)) (h1 : ∀ c ∈ l', c.1 = 1 → c.2.1 ∈ ft') (h2 : ∀ c ∈ l', c.1 ≠ 2) (h3 : ∀ b ∈ ft', b ∈ l'.map (·.2.1)) : Sep H ft' H l' := by
  have em : l'.map (·.2.1) = l.map (·.2.1) := by
    have := congrArg (List.map Prod.fst) e
    rw [List.map_map, List.map_map] at this
    exact this
  have rd : ∀ c ∈ l', H c.2.1 = some c.2.2 := fun c hc => by
    have : c.2 ∈ l.map (·.2) := by rw [← e]; exact List.mem_map.mpr ⟨c, hc, rfl⟩
    obtain ⟨d, hd, ed⟩ := List.mem_map.mp this
    have := S.rd d hd
    rw [ed] at this
    exact this
  refine ⟨by rw [em]; exact S.nd, rd, fun _ _ h _ => h, h1, fun c hc z => absurd z (h2 c hc), fun b hb => ?_⟩
  obtain ⟨c, hc, rfl⟩ := List.mem_map.mp (h3 b hb)
  exact ⟨_, rd c hc⟩
/-- the cells that a call is given: (tag, index) -/
def preL (l : List Cell) (is : List (Nat × Nat)) : List Cell := is.filterMap fun u => l[u.2]?.map fun c => (u.1, c.2)
theorem Sep.pre (S : Sep H0 ft H l) (is : List (Nat × Nat)) (hn : (is.map (·.2)).Nodup := by decide) (ht : (is.all fun u => decide (u.1 ≤ 1)) = true := by decide) : Sep H (((preL l is).filter (·.1 = 1)).map (·.2.1)) H (preL l is) := by
  refine (S.sub (is.map (·.2)) hn).retag ?_ ?_ ?_ ?_
  · unfold preL
    rw [List.map_filterMap, List.map_filterMap, List.filterMap_map]
    congr 1
    funext u
    show Option.map _ (Option.map _ l[u.2]?) = Option.map _ l[u.2]?
    cases l[u.2]? <;> rfl
  · intro c hc e
    exact List.mem_map.mpr ⟨c, List.mem_filter.mpr ⟨hc, decide_eq_true e⟩, rfl⟩
  · intro c hc e
    obtain ⟨u, hu, eu⟩ := List.mem_filterMap.mp hc
    obtain ⟨d, _, rfl⟩ := Option.map_eq_some_iff.mp eu
    have := of_decide_eq_true (List.all_eq_true.mp ht u hu)
    have e : u.1 = 2 := e
    omega
  · intro b hb
    obtain ⟨c, hc, rfl⟩ := List.mem_map.mp hb
    exact List.mem_map.mpr ⟨c, (List.mem_filter.mp hc).1, rfl⟩
/-- the cells behind it: (index, cell) -/
theorem Sep.chgs : ∀ (us : List (Nat × Cell)) {H : Hp} {l : List Cell}, Sep H0 ft H l → (∀ u ∈ us, ∃ o, l[u.1]? = some (u.2.1, u.2.2.1, o)) → (∀ u ∈ us, u.2.1 = 1 ∨ u.2.1 = 2) → (us.map (·.1)).Nodup →
    (∀ b o, H b = some o → b ∉ us.map (·.2.2.1) → H' b = some o) → (∀ u ∈ us, H' u.2.2.1 = some u.2.2.2) → Sep H0 ft H' (us.foldl (fun l u => l.set u.1 u.2) l)
  | [], _, _, S, _, _, _, F, _ => S.stay fun b o e => F b o e (fun z => nomatch z)
  | (i, t, a, o') :: r, H, l, S, hi, ht, hn, F, he => by
    obtain ⟨o, ho⟩ := hi _ List.mem_cons_self
    obtain ⟨n1, n2⟩ := List.nodup_cons.mp hn
    refine Sep.chgs r (S.put i o' ho (ht _ List.mem_cons_self)) (fun u hu => ?_) (fun u hu => ht u (List.mem_cons_of_mem _ hu)) n2 (fun b u hb hm => ?_) (fun u hu => he u (List.mem_cons_of_mem _ hu))
    · obtain ⟨v, hv⟩ := hi u (List.mem_cons_of_mem _ hu)
      exact ⟨v, by rw [List.getElem?_set_ne (fun z => n1 (List.mem_map.mpr ⟨u, hu, z.symm⟩))]; exact hv⟩
    · by_cases z : b = a
      · subst z
        rw [upd_same] at hb
        cases hb
        exact he _ List.mem_cons_self
      · rw [upd_ne z] at hb
        exact F b u hb (fun m => (List.mem_cons.mp m).elim z hm)
end
theorem fun_kbn {K : PySem.W.Frag} {x qual : Str} {st : Stmt} {f : Addr} {fd : FuncData} (F : L2.Fun K x qual st f fd) (n : Nat) (ks : List Str) (is : List Nat) {ps : List Str}
    (h : ∀ (kV doc pm : Value) (an : Option Addr) (cdv ct : Value) (us ws : List Value), us.length = n → ws.length = ks.length → bindArgs (PySem.W.fnOf x qual (defArgs st) (defBody st) (defScope st) .none kV doc pm an cdv ct) ⟨us, ks.zip ws⟩ = pure (ps.zip (us ++ kwp is ws))) :
    KBn K fd ps n ks (fun us ws => us ++ kwp is ws) (fun vs zs => vs ++ kwp is zs) := by
  obtain ⟨oc, od, kV, doc, pm, an, cdv, ct, osl, rfl, lk, hcd⟩ := F.ex
  exact ⟨fun s us ws _ l1 l2 => .of_eq (h kV doc pm an cdv ct us ws l1 l2), fun r1 r2 => r1.append (kwp_vals is r2)⟩
/-! ### rules that the layer lacks -/
section
variable {X : Cx}
theorem get_list : PGet X (rIxL X.K) := by
  intro pins s σ H x y v u Q I rx ry h
  obtain ⟨p, xs, i, z, rfl, rfl, hq, he, q⟩ := h
  cases rx
  obtain ⟨t, rfl⟩ := ry
  obtain ⟨its, r, pl, hz⟩ := I.list hq
  obtain ⟨j, h1, h2, h3, h4, h5⟩ := atI_get he
  obtain ⟨w, ew, rw'⟩ := r.get h2
  have hl := r.length
  have hn := line63
  have fin : EP X pins σ Q w s := ⟨z, H, I, rw', q⟩
  by_cases h0 : 0 ≤ i
  · have hj : i.toNat = j := by
      rw [seqIndex_of h0 h5] at h1
      exact Option.some.inj h1
    exact wpAny_getItem_list pl.isList h0 (by omega) (by rw [hj]; simpa using ew) fin
  · have hj : (i + (its.toArray.size : Int)).toNat = j := by
      rw [seqIndex_neg (by omega) h4] at h1
      rw [List.size_toArray, ← hl]
      exact Option.some.inj h1
    exact wpAny_getItem_list_neg pl.isList (by omega) (by rw [List.size_toArray] <;> omega) (by omega) (by rw [hj]; simpa using ew) fin
end
end G

set_option linter.all false
set_option maxRecDepth 100000
/-! walks, locked dicts, dicts with tuple keys, more methods -/
namespace G
open PySem PySem.Spec PyProof.Rows L2
section
variable {H0 H : Hp} {ft : List Addr} {l : List Cell} {t : Nat} {a p : Addr} {o u : HO} {K : PySem.W.Frag} {σ : L2.St} {Q : VK} {v x y z : V} {i j : Int}
theorem x_join (te : TE) (R : V → Hp → Prop) (k : ∀ v H', R v H' → Q v H') (h : (∀ v H', R v H' → Q v H') → te σ H Q) : te σ H Q := h k
theorem x_orT {ta tb : TE} (h : ta σ H fun x H1 => ∃ k, TruV K x H1 k ∧ if k = true then Q x H1 else tb σ H1 Q) : tOrT K ta tb σ H Q := h
theorem forW {J : It} {n : Nat} {G : Hp → Prop} {Y : Nat → Hp → V → Hp → Prop} (w : Walk J n G Y) {g : TG} {tb : TS} {D : Ends} (Pv : Nat → L2.St → Hp → Prop) (h0 : Pv 0 σ H) (hG : ∀ i σ H, i ≤ n → Pv i σ H → G H)
    (hs : ∀ i x σ H H', i < n → Pv i σ H → Y i H x H' → g x σ H' fun σ2 H2 => tb { D with nx := Pv (i + 1), ct := Pv (i + 1), bk := D.nx } σ2 H2) (hd : ∀ σ H, Pv n σ H → D.nx σ H) : ForJ J g tb D σ H := for_it w Pv h0 hG hs hd
theorem lcW {J : It} {n : Nat} {G : Hp → Prop} {Y : Nat → Hp → V → Hp → Prop} (w : Walk J n G Y) {g : TG} {tt : TT} {te : TE} {vs : List Nat} (S : Sep H0 ft H l)
    (h : ∀ D H1, Sep H0 ft H1 ((2, D, .lst []) :: l) → ∃ Pv : Nat → Hp → Prop, Pv 0 H1 ∧ (∀ i H, i ≤ n → Pv i H → G H) ∧
      (∀ i x H H', i < n → Pv i H → Y i H x H' → g x (wipe σ vs) H' fun σ2 H2 => wipe σ2 vs = wipe σ vs ∧ tt σ2 H2 fun b H3 => if b = true then te σ2 H3 fun y H4 => rLcA D y H4 (Pv (i + 1)) else Pv (i + 1) H3) ∧
      ∀ H, Pv n H → Q (.ref D) H) : LcJ J g tt te vs σ H Q := fun D hD =>
  let ⟨Pv, h0, hG, hs, hd⟩ := h D _ (S.new hD (.lst []))
  lc_it w (H1 := H) Pv h0 hG hs hd
theorem pg_tupK {X : Cx} {pos : Pos} {es : List Expr} {k : Nat} {t : TGs} (K : PySem.W.Frag) (n : Nat) (hc : X.calm = true) (h : PGs X es t) (hn : (assignEach es X.env).length = n := by rfl) (hst : (assignEach es X.env).findIdx? (·.1) = none := by rfl) (e : X.K = K := by rfl) : PG X (.Tuple es k pos) (gTup K n t) := by
  subst e; exact pg_tup hc h hn hst
def tNevE : TE := fun _ _ _ => False
theorem pe_never {X : Cx} {e : Expr} : PE X e tNevE := ⟨fun _ _ _ _ _ _ h => h.elim⟩
def tNevT : TT := fun _ _ _ => False
theorem pt_never {X : Cx} {e : Expr} : PT X e tNevT := ⟨fun _ _ _ _ _ _ h => h.elim⟩
/-! a dict that is walked stands locked -/
def rUnl (p : Addr) (od : Obj) (u : HO) (H : Hp) (R : Hp → Prop) : Prop := H p = some (.frz od u) ∧ R (upd H p u)
theorem x_lockE {te : TE} (S : Sep H0 ft H l) (n : Nat) (h : l[n]? = some (t, p, u)) (mu : Mut (some u)) (q : ∀ od H', Sep H0 ft H' (l.set n (t, p, .frz od u)) → te σ H' fun v H2 => rUnl p od u H2 (Q v))
    (ht : t = 1 ∨ t = 2 := by first | exact .inl rfl | exact .inr rfl) : tLockE te σ H Q := ⟨p, u, S.get n h, mu, fun od => q od _ (S.put n _ h ht)⟩
theorem x_unl {od : Obj} {R : Hp → Prop} (S : Sep H0 ft H l) (n : Nat) (h : l[n]? = some (t, p, .frz od u)) (q : ∀ H', Sep H0 ft H' (l.set n (t, p, u)) → R H') (ht : t = 1 ∨ t = 2 := by first | exact .inl rfl | exact .inr rfl) : rUnl p od u H R :=
  ⟨S.get n h, q _ (S.put n _ h ht)⟩
def lockD (p : Addr) (od : Obj) (u : HO) (D : Ends) : Ends := ⟨fun σ' H' => rUnl p od u H' (D.nx σ'), fun v H' => rUnl p od u H' (D.rt v), fun σ' H' => rUnl p od u H' (D.bk σ'), fun σ' H' => rUnl p od u H' (D.ct σ')⟩
theorem x_lockS {ts : TS} {D : Ends} (S : Sep H0 ft H l) (n : Nat) (h : l[n]? = some (t, p, u)) (mu : Mut (some u)) (q : ∀ od H', Sep H0 ft H' (l.set n (t, p, .frz od u)) → ts (lockD p od u D) σ H')
    (ht : t = 1 ∨ t = 2 := by first | exact .inl rfl | exact .inr rfl) : tLock ts D σ H := ⟨p, u, S.get n h, mu, fun od => q od _ (S.put n _ h ht)⟩
def rKeys : V → Hp → (It → Hp → Prop) → Prop := fun x H R => ∃ d o, x = .ref d ∧ ((∃ kvs, H d = some (.frz o (.dK kvs)) ∧ R (Itk d o kvs) H) ∨ ∃ kvs, H d = some (.frz o (.dT kvs)) ∧ R (Itkt d o kvs) H)
def iKeys1 (td : TE) : TI := fun σ H R => td σ H fun x H1 => rKeys x H1 R
theorem pi_keys1 {X : Cx} {tg e : Expr} {td : TE} (he : PE X e td) : PI X tg e (iKeys1 td) := pi_keys he
theorem x_ikeysT {od : Obj} {kvs : List (List Key × V)} {R : It → Hp → Prop} (S : Sep H0 ft H l) (n : Nat) (h : l[n]? = some (t, p, .frz od (.dT kvs))) (q : R (Itkt p od kvs) H) : rKeys (.ref p) H R := ⟨p, od, rfl, .inr ⟨kvs, S.get n h, q⟩⟩
theorem x_ikeys {od : Obj} {kvs : List (Key × V)} {R : It → Hp → Prop} (S : Sep H0 ft H l) (n : Nat) (h : l[n]? = some (t, p, .frz od (.dK kvs))) (q : R (Itk p od kvs) H) : rKeys (.ref p) H R := ⟨p, od, rfl, .inl ⟨kvs, S.get n h, q⟩⟩
def rEnum (K : PySem.W.Frag) : List V → Hp → (It → Hp → Prop) → Prop := fun vs H R => ∃ a xs, vs = [.ref a] ∧ SqL K H a xs ∧ R (Ite K a) H
def iEnum1 (K : PySem.W.Frag) (ta : TA) : TI := fun σ H R => ta σ H fun vs H1 => rEnum K vs H1 R
theorem pi_enumK {X : Cx} {e : Expr} {ta : TA} {p pos tpos : Pos} {elts : List Expr} {kk : Nat} (K : PySem.W.Frag) (hg : Gl X "enumerate") (hm : X.mg "enumerate" = none) (ha : PA X [e] ta) (hs : starEach [e] X.env = [(false, eval e X.env)] := by rfl) (h : X.K = K := by rfl) :
    PI X (.Tuple elts kk tpos) (.Call (.Name "enumerate" p) [e] [] pos) (iEnum1 K ta) := by subst h; exact pi_enum hg hm ha hs
theorem x_enum {xs : List V} {R : It → Hp → Prop} (S : Sep H0 ft H l) (n : Nat) (h : l[n]? = some (t, p, .lst xs)) (q : R (Ite K p) H) : rEnum K [.ref p] H R := ⟨p, xs, rfl, S.sl n h, q⟩
/-! dicts with tuple keys -/
def rDNewT : Hp → VK → Prop := fun H Q => ∀ p, H p = none → Q (.ref p) (upd H p (.dT []))
def tDNewT1 : TE := fun _ H Q => rDNewT H Q
theorem pe_dnewT1 {X : Cx} {pos : Pos} : PE X (.Dict [] [] pos) tDNewT1 := pe_dnewT
theorem x_dnewT (S : Sep H0 ft H l) (q : ∀ p H', Sep H0 ft H' ((2, p, .dT []) :: l) → Q (.ref p) H') : rDNewT H Q := x_new S _ q
theorem x_dputT {t' : Nat} {b : Addr} {kvs : List (List Key × V)} {xs : List V} {R : Hp → Prop} (k : List Key) (S : Sep H0 ft H l) (n m : Nat) (h : l[n]? = some (t, p, .dT kvs)) (h' : l[m]? = some (t', b, .tup xs)) (hl : kvs.length < 100000) (q : ∀ H', Sep H0 ft H' (l.set n (t, p, .dT (putK kvs k v))) → R H')
    (e : xs = k.map kV := by rfl) (ht : t = 1 ∨ t = 2 := by first | exact .inl rfl | exact .inr rfl) : rDPut (.ref p) (.ref b) v H R := by
  subst e; exact ⟨p, _, rfl, DPut.t (S.get n h) (S.get m h') (Nat.lt_of_lt_of_le hl (by decide)), q _ (S.put n _ h ht)⟩
theorem x_dinT {t' : Nat} {b : Addr} {kvs : List (List Key × V)} {xs : List V} (k : List Key) (S : Sep H0 ft H l) (n m : Nat) (h : l[n]? = some (t, p, .dT kvs)) (h' : l[m]? = some (t', b, .tup xs)) (q : Q (.bl (valV kvs k).isSome) H) (e : xs = k.map kV := by rfl) : rDIn (.ref b) (.ref p) H Q := by
  subst e; exact ⟨p, _, rfl, DGet.t (S.get n h) (S.get m h'), q⟩
theorem x_dniT {t' : Nat} {b : Addr} {kvs : List (List Key × V)} {xs : List V} (k : List Key) (S : Sep H0 ft H l) (n m : Nat) (h : l[n]? = some (t, p, .dT kvs)) (h' : l[m]? = some (t', b, .tup xs)) (q : Q (.bl (!(valV kvs k).isSome)) H) (e : xs = k.map kV := by rfl) : rDNi (.ref b) (.ref p) H Q := by
  subst e; exact ⟨p, _, rfl, DGet.t (S.get n h) (S.get m h'), q⟩
/-! d.get -/
def rDG (y z : V) (a : Addr) (H : Hp) (Q : VK) : Prop := ∃ o, DGet H a y o ∧ Q (o.getD z) H
def tDG1 (td ty : TE) : TE := fun σ H Q => td σ H fun x H1 => rIsD x H1 fun a => ty σ H1 fun y H2 => rDG y .non a H2 Q
def tDG2 (td ty tx : TE) : TE := fun σ H Q => td σ H fun x H1 => rIsD x H1 fun a => ty σ H1 fun y H2 => tx σ H2 fun z H3 => rDG y z a H3 Q
section
variable {X : Cx} {td ty tx : TE} {oe e f : Expr} {apos cpos : Pos}
theorem pe_dg1 (hu : X.A.units + 1 < cLine) (ho : PE X oe td) (he : PE X e ty) (m : M1 X oe "get" apos e cpos) : PE X (.Call (.Attribute oe "get" apos) [e] [] cpos) (tDG1 td ty) := pe_dget1 hu ho he m
theorem pe_dg2 (hu : X.A.units + 1 < cLine) (ho : PE X oe td) (he : PE X e ty) (hf : PE X f tx) (m : M2 X oe "get" apos e f cpos) : PE X (.Call (.Attribute oe "get" apos) [e, f] [] cpos) (tDG2 td ty tx) := pe_dget2 hu ho he hf m
end
theorem x_dg {kvs : List (Key × V)} {k : Key} (S : Sep H0 ft H l) (n : Nat) (h : l[n]? = some (t, p, .dK kvs)) (q0 : valV kvs k = none → Q z H) (q1 : ∀ v, valV kvs k = some v → Q v H) : rDG (kV k) z p H Q := by
  refine ⟨_, DGet.k (k := k) (S.get n h), ?_⟩
  cases e : valV kvs k with
  | none => exact q0 e
  | some v => exact q1 v e
theorem x_dgT {t' : Nat} {b : Addr} {kvs : List (List Key × V)} {xs : List V} (k : List Key) (S : Sep H0 ft H l) (n m : Nat) (h : l[n]? = some (t, p, .dT kvs)) (h' : l[m]? = some (t', b, .tup xs)) (q0 : valV kvs k = none → Q z H) (q1 : ∀ v, valV kvs k = some v → Q v H) (e : xs = k.map kV := by rfl) : rDG (.ref b) z p H Q := by
  subst e
  refine ⟨_, DGet.t (k := k) (S.get n h) (S.get m h'), ?_⟩
  cases e : valV kvs k with
  | none => exact q0 e
  | some v => exact q1 v e
theorem x_isDT {kvs : List (List Key × V)} {R : Addr → Prop} (S : Sep H0 ft H l) (n : Nat) (h : l[n]? = some (t, p, .dT kvs)) (q : R p) : rIsD (.ref p) H R := ⟨p, rfl, .inr ⟨_, .inl (S.get n h)⟩, q⟩
/-! more calls -/
def rAbs : List V → Hp → VK → Prop := fun xs H Q => ∃ i, xs = [.int i] ∧ Q (.int (if i < 0 then -i else i)) H
theorem cl_abs {X : Cx} : CallR X (.builtin "abs") rAbs := call_abs
theorem x_abs (q : Q (.int (i.natAbs : Int)) H) : rAbs [.int i] H Q := ⟨i, rfl, by
  have : (if i < 0 then -i else i) = (i.natAbs : Int) := by split <;> omega
  rw [this]; exact q⟩
theorem cl_maxK {X : Cx} (K : PySem.W.Frag) (hc : X.calm = true) (h : X.K = K := by rfl) : CallR X (.builtin "max") (rMax K) := by subst h; exact cr_max hc
theorem x_maxL {ns : List Int} (S : Sep H0 ft H l) (n : Nat) (h : l[n]? = some (t, p, .lst (ns.map V.int))) (hl : 0 < ns.length) (q : ∀ m, m ∈ ns → (∀ y, y ∈ ns → y ≤ m) → Q (.int m) H) : rMax K [.ref p] H Q := ⟨p, ns, rfl, S.sl n h, hl, q⟩
theorem cl_sortedK {X : Cx} (K : PySem.W.Frag) (h : X.K = K := by rfl) : CallR X (.builtin "sorted") (rSorted K) := by subst h; exact cr_sorted
theorem x_sorted {ns : List Int} (S : Sep H0 ft H l) (n : Nat) (h : l[n]? = some (t, p, .lst (ns.map V.int))) (hl : ns.length < 64) (q : ∀ (ns' : List Int) r H', ns'.Perm ns → ns'.Pairwise (· ≤ ·) → Sep H0 ft H' ((2, r, .lst (ns'.map V.int)) :: l) → Q (.ref r) H') : rSorted K [.ref p] H Q :=
  ⟨p, ns, rfl, S.sl n h, hl, fun ns' r hp hw hr => q ns' r _ hp hw (S.new hr _)⟩
theorem x_cat {q1 : Addr} {t' : Nat} {xs ys : List V} (S : Sep H0 ft H l) (n m : Nat) (h : l[n]? = some (t, p, .lst xs)) (h' : l[m]? = some (t', q1, .lst ys)) (hl : xs.length + ys.length ≤ 100000) (q : ∀ r H', Sep H0 ft H' ((2, r, .lst (xs ++ ys)) :: l) → Q (.ref r) H') : rCat (.ref p) (.ref q1) H Q :=
  ⟨p, q1, xs, ys, rfl, rfl, S.get n h, S.get m h', Nat.le_trans hl (by decide), x_new S _ q⟩
theorem x_rev {xs : List V} (S : Sep H0 ft H l) (n : Nat) (h : l[n]? = some (t, p, .lst xs)) (q : ∀ H', Sep H0 ft H' (l.set n (t, p, .lst xs.reverse)) → Q .non H') (ht : t = 1 ∨ t = 2 := by first | exact .inl rfl | exact .inr rfl) : rReverse (.ref p) [] H Q := ⟨p, xs, rfl, rfl, S.get n h, q _ (S.put n _ h ht)⟩
theorem x_clear {xs : List V} (S : Sep H0 ft H l) (n : Nat) (h : l[n]? = some (t, p, .lst xs)) (q : ∀ H', Sep H0 ft H' (l.set n (t, p, .lst [])) → Q .non H') (ht : t = 1 ∨ t = 2 := by first | exact .inl rfl | exact .inr rfl) : rClear (.ref p) [] H Q := ⟨p, xs, rfl, rfl, S.get n h, q _ (S.put n _ h ht)⟩
theorem x_appI {cs : List Int} (S : Sep H0 ft H l) (n : Nat) (h : l[n]? = some (t, p, .lst (cs.map V.int))) (hl : cs.length < 100000) (q : ∀ H', Sep H0 ft H' (l.set n (t, p, .lst ((cs ++ [i]).map V.int))) → Q .non H') (ht : t = 1 ∨ t = 2 := by first | exact .inl rfl | exact .inr rfl) :
    rAppend (.ref p) [.int i] H Q := x_app S n h (by rw [List.length_map]; exact hl) (fun H' S' => q H' (by rw [List.map_append]; exact S')) ht
/-! a list of which the script's cells are read -/
theorem x_slS {cs : List Int} {lo hi : Option Int} (hs : SqL K H p (cs.map V.int)) (S : Sep H0 ft H l) (q : ∀ r H', Sep H0 ft H' ((2, r, .lst ((cutI cs lo hi).map V.int)) :: l) → Q (.ref r) H') : rSlL K (.ref p) lo hi H Q :=
  ⟨p, _, rfl, hs, by rw [cutV_map]; exact x_new S _ q⟩
theorem len_cutI {α : Type} (xs : List α) (lo hi : Option Int) : (cutI xs lo hi).length ≤ xs.length := by
  unfold cutI
  rw [List.length_take, List.length_drop]
  omega
theorem cutV_from {xs : List V} {i : Int} (h0 : 0 ≤ i) : cutV xs (some i) none = xs.drop i.toNat := by
  unfold cutV
  have e : i = (i.toNat : Int) := by omega
  rw [e, HT.sIx_nat, Int.toNat_natCast]
  have e2 : HT.sIx xs.length xs.length none = xs.length := by unfold HT.sIx; simp
  rw [e2]
  by_cases hl : i.toNat ≤ xs.length
  · rw [Nat.min_eq_left hl, List.take_of_length_le (by rw [List.length_drop]; exact Nat.le_refl _)]
  · rw [Nat.min_eq_right (by omega), List.drop_length, List.take_nil, List.drop_eq_nil_of_le (by omega)]
end
end G

set_option linter.all false
set_option maxRecDepth 100000
/-! dicts with fixed keys, displays, a tail of cells -/
namespace G
open PySem PySem.Spec PyProof.Rows L2
section
variable {H0 H H' : Hp} {ft : List Addr} {l l' o' : List Cell} {t : Nat} {a p : Addr} {o u : HO} {K : PySem.W.Frag} {σ : L2.St} {Q : VK} {v x y z : V} {i j : Int}
def rDsE (p : Addr) (ps : List (V × V)) (H : Hp) (Q : VK) : Prop := H p = some (.dK []) ∧ ∃ kvs : List (Key × V), ps = kvs.map (fun kv => (kV kv.1, kv.2)) ∧ kvs.length ≤ 15 ∧ Q (.ref p) (upd H p (.dK (mergeK [] kvs)))
theorem x_disp {trs : List (TE × TE)} (S : Sep H0 ft H l) (q : ∀ p H', Sep H0 ft H' ((2, p, .dK []) :: l) → tPairs trs σ H' fun ps H2 => rDsE p ps H2 Q) : tDisp trs σ H Q := fun p hp => q p _ (S.new hp _)
theorem x_dispE {kvs kvs' : List (Key × V)} {ps : List (V × V)} (S : Sep H0 ft H l) (n : Nat) (h : l[n]? = some (t, p, .dK [])) (e : ps = kvs.map (fun kv => (kV kv.1, kv.2))) (hl : kvs.length ≤ 15) (hm : mergeK [] kvs = kvs') (q : ∀ H', Sep H0 ft H' (l.set n (t, p, .dK kvs')) → Q (.ref p) H')
    (ht : t = 1 ∨ t = 2 := by first | exact .inl rfl | exact .inr rfl) : rDsE p ps H Q := ⟨S.get n h, kvs, e, hl, by rw [hm]; exact q _ (S.put n _ h ht)⟩
theorem x_dputR {kvs kvs' : List (Key × V)} {k : Key} {R : Hp → Prop} (S : Sep H0 ft H l) (n : Nat) (h : l[n]? = some (t, p, .dK kvs)) (e : putK kvs k v = kvs') (hl : kvs.length < 100000) (q : ∀ H', Sep H0 ft H' (l.set n (t, p, .dK kvs')) → R H')
    (ht : t = 1 ∨ t = 2 := by first | exact .inl rfl | exact .inr rfl) : rDPut (.ref p) (kV k) v H R := x_dput S n h hl (fun H' S' => q H' (by rw [← e]; exact S')) ht
theorem x_pop0 {xs : List V} (S : Sep H0 ft H l) (n : Nat) (h : l[n]? = some (t, p, .lst (x :: xs))) (q : ∀ H', Sep H0 ft H' (l.set n (t, p, .lst xs)) → Q x H') (ht : t = 1 ∨ t = 2 := by first | exact .inl rfl | exact .inr rfl) : rPopAt (.ref p) [.int 0] H Q :=
  ⟨p, _, 0, 0, x, rfl, rfl, S.get n h, by decide, by decide, by unfold seqIndex?; simp, rfl, q _ (S.put n _ h ht)⟩
/-- some of the first n cells, in another order, ahead of the others -/
theorem Sep.subT (S : Sep H0 ft H l) (n : Nat) (is : List Nat) (hn : is.Nodup := by decide) (hb : (is.all fun i => decide (i < n)) = true := by decide) : Sep H0 ft H (is.filterMap (l[·]?) ++ l.drop n) := by
  have hm : ∀ c ∈ is.filterMap (l[·]?) ++ l.drop n, c ∈ l := fun c hc => by
    rcases List.mem_append.mp hc with hc | hc
    · obtain ⟨j, _, ej⟩ := List.mem_filterMap.mp hc
      exact List.mem_of_getElem? ej
    · exact List.mem_of_mem_drop hc
  refine ⟨?_, fun c hc => S.rd c (hm c hc), S.fr, fun c hc => S.wr c (hm c hc), fun c hc => S.nw c (hm c hc), S.ex⟩
  have e1 : (is.filterMap (l[·]?)).map (·.2.1) = is.filterMap ((l.map (·.2.1))[·]?) := by
    rw [List.map_filterMap]
    congr 1
    funext i
    rw [List.getElem?_map]
  rw [List.map_append, List.map_drop, e1]
  refine List.nodup_append.mpr ⟨nodup_of _ is hn S.nd, List.Sublist.nodup (List.drop_sublist _ _) S.nd, fun b hb1 c hc1 e => ?_⟩
  subst e
  obtain ⟨i, hi, ei⟩ := List.mem_filterMap.mp hb1
  have hin : i < n := of_decide_eq_true (List.all_eq_true.mp hb i hi)
  obtain ⟨j, hj⟩ := List.mem_iff_getElem?.mp hc1
  rw [List.getElem?_drop] at hj
  obtain ⟨x1, e1'⟩ := List.getElem?_eq_some_iff.mp ei
  obtain ⟨x2, e2'⟩ := List.getElem?_eq_some_iff.mp hj
  have := (List.getElem_inj S.nd).mp (e1'.trans e2'.symm)
  omega
/-- what a def with two cells of its own is given -/
theorem Sep.give3 {t1 t2 t3 : Nat} {p q r : Addr} {o1 o2 o3 : HO} (S : Sep H0 ft H l) (i j k : Nat) (hi : l[i]? = some (t1, p, o1)) (hj : l[j]? = some (t2, q, o2)) (hk : l[k]? = some (t3, r, o3)) (hn : [i, j, k].Nodup) : Sep H [p, q] H [(1, p, o1), (1, q, o2), (0, r, o3)] := by
  have h := S.sub [i, j, k] hn
  simp only [List.filterMap_cons, hi, hj, hk, List.filterMap_nil] at h
  refine h.retag rfl ?_ ?_ ?_
  · simp
  · simp
  · simp
theorem x_ilistS {xs : List V} {R : It → Hp → Prop} (hs : SqL K H p xs) (q : R (Itl K p) H) : rIL K (.ref p) H R := ⟨p, rfl, ⟨xs, hs⟩, q⟩
def AllP {α : Type} (p : α → Prop) : List α → Prop
  | [] => True
  | a :: r => p a ∧ AllP p r
theorem AllP.all {α : Type} {p : α → Prop} : ∀ {us : List α}, AllP p us → ∀ u ∈ us, p u
  | a :: r, ⟨h, hr⟩, u, hu => (List.mem_cons.mp hu).elim (fun e => e ▸ h) fun m => AllP.all hr u m
theorem fold_addr {us : List (Nat × Cell)} : ∀ {l : List Cell}, (∀ u ∈ us, ∃ o, l[u.1]? = some (u.2.1, u.2.2.1, o)) → (us.map (·.1)).Nodup → (us.foldl (fun l u => l.set u.1 u.2) l).map (·.2.1) = l.map (·.2.1) := by
  induction us with
  | nil => intro l _ _; rfl
  | cons u us ih =>
    intro l hi hn
    obtain ⟨n1, n2⟩ := List.nodup_cons.mp hn
    rw [List.foldl_cons, ih (fun v hv => ?_) n2]
    · obtain ⟨o, ho⟩ := hi u List.mem_cons_self
      exact map_set ho
    · obtain ⟨o, ho⟩ := hi v (List.mem_cons_of_mem _ hv)
      exact ⟨o, by rw [List.getElem?_set_ne (fun z => n1 (List.mem_map.mpr ⟨v, hv, z.symm⟩))]; exact ho⟩
/-- new cells beside those that are -/
theorem Sep.join {ft' : List Addr} {m : List Cell} (S : Sep H0 ft H l) (S1 : Sep H0 ft H' l') (e : l'.map (·.2.1) = l.map (·.2.1)) (S' : Sep H ft' H' (m ++ o')) (hm : ∀ c ∈ m, c.1 = 2) : Sep H0 ft H' (m ++ l') := by
  have hd : ∀ c ∈ m, H c.2.1 = none := fun c hc => S'.nw c (List.mem_append_left _ hc) (hm c hc)
  have nd' := S'.nd
  rw [List.map_append] at nd'
  refine ⟨?_, fun c hc => (List.mem_append.mp hc).elim (fun h => S'.rd c (List.mem_append_left _ h)) (S1.rd c), S1.fr, fun c hc e1 => (List.mem_append.mp hc).elim (fun h => by rw [hm c h] at e1; cases e1) (fun h => S1.wr c h e1),
    fun c hc e1 => (List.mem_append.mp hc).elim (fun h => S.none0 (hd c h)) (fun h => S1.nw c h e1), S1.ex⟩
  rw [List.map_append]
  refine List.nodup_append.mpr ⟨(List.nodup_append.mp nd').1, S1.nd, fun a ha b hb z => ?_⟩
  subst z
  obtain ⟨c, hc, rfl⟩ := List.mem_map.mp ha
  rw [e] at hb
  obtain ⟨d, hd2, ed⟩ := List.mem_map.mp hb
  have := S.rd d hd2
  rw [ed, hd c hc] at this
  cases this
/-- behind a call: n new cells and the changed ones are told by the callee's own list -/
theorem Sep.call {L : List Cell} (S : Sep H0 ft H l) (n : Nat) (us : List (Nat × Cell)) (hi : AllP (fun u : Nat × Cell => ∃ o, l[u.1]? = some (u.2.1, u.2.2.1, o) ∧ (u.2.1 = 1 ∨ u.2.1 = 2)) us) (hn : (us.map (·.1)).Nodup) (S' : Sep H (us.map (·.2.2.1)) H' L)
    (e : L.drop n = us.map (fun u => (1, u.2.2)) := by rfl) (hm : AllP (fun c : Cell => c.1 = 2) (L.take n) := by first | trivial | exact ⟨rfl, trivial⟩ | exact ⟨rfl, rfl, trivial⟩ | exact ⟨rfl, rfl, rfl, trivial⟩ | exact ⟨rfl, rfl, rfl, rfl, trivial⟩) : Sep H0 ft H' (L.take n ++ us.foldl (fun l u => l.set u.1 u.2) l) := by
  have hi1 : ∀ u ∈ us, ∃ o, l[u.1]? = some (u.2.1, u.2.2.1, o) := fun u hu => let ⟨o, h, _⟩ := hi.all u hu; ⟨o, h⟩
  have S1 := S.chgs us hi1 (fun u hu => let ⟨_, _, h⟩ := hi.all u hu; h) hn S'.fr (fun u hu => by
    have : ((1, u.2.2) : Cell) ∈ L := List.mem_of_mem_drop (i := n) (by rw [e]; exact List.mem_map.mpr ⟨u, hu, rfl⟩)
    exact S'.rd (1, u.2.2) this)
  rw [← List.take_append_drop n L] at S'
  exact S.join S1 (fold_addr hi1 hn) S' hm.all
end
end G

set_option linter.all false
set_option maxRecDepth 100000
/-! texts -/
namespace G
open PySem PySem.Spec PyProof.Rows L2
theorem len_app (a b : Str) : (a ++ b).length = a.length + b.length := by
  show (a.cps ++ b.cps).size = _
  rw [Array.size_append]; rfl
theorem len_join0 : ∀ ys : List Str, (Txt.join "" ys).length = (ys.map (·.length)).sum := by
  intro ys
  rw [TL.join_eq]
  induction ys with
  | nil => rfl
  | cons y r ih =>
    cases r with
    | nil => show y.length = y.length + 0; omega
    | cons z r =>
      show (y ++ ("" : Str) ++ Str.join "" (z :: r)).length = _
      rw [len_app, len_app, ih]
      rfl
theorem len_cut8 (z : Str) : (cutS z none (some 8)).length = min z.length 8 := by
  unfold cutS
  have e1 : HT.sIx z.length 0 none = 0 := by unfold HT.sIx; simp
  have e2 : HT.sIx z.length z.length (some 8) = min 8 z.length := HT.sIx_nat z.length z.length 8
  rw [e1, e2]
  show ((z.cps.toList.drop 0).take (min 8 z.length - 0)).toArray.size = _
  rw [List.size_toArray, List.length_take, List.drop_zero, Array.length_toList, Nat.sub_zero]
  show min (min 8 z.length) z.length = _
  omega
theorem inV_str (s : Str) (ss : List Str) : inV (.str s) (ss.map V.str) = decide (s ∈ ss) := by
  unfold inV
  induction ss with
  | nil => rfl
  | cons a r ih =>
    rw [List.map_cons, List.any_cons, ih]
    show ((a == s) || decide (s ∈ r)) = _
    by_cases h : s = a
    · subst h; simp
    · have : (a == s) = false := by
        apply Bool.eq_false_iff.mpr
        intro e
        exact h (eq_of_beq e).symm
      rw [this, Bool.false_or]
      exact decide_eq_decide.mpr ⟨fun m => List.mem_cons_of_mem _ m, fun m => (List.mem_cons.mp m).elim (fun e => absurd e h) id⟩
theorem flat_strs (ss : List Str) : (ss.map V.str).all flatV = true := List.all_eq_true.mpr fun v hv => by obtain ⟨s, _, rfl⟩ := List.mem_map.mp hv; rfl
section
variable {H0 H H' : Hp} {ft : List Addr} {l : List Cell} {t : Nat} {a p : Addr} {K : PySem.W.Frag} {σ : L2.St} {Q : VK} {v x y z : V} {i j : Int}
theorem op_inK {X : Cx} (K : PySem.W.Frag) (h : X.K = K := by rfl) : OpR X (compareOp .In) (rIn K false) := by subst h; exact op_in_seq
theorem op_niK {X : Cx} (K : PySem.W.Frag) (h : X.K = K := by rfl) : OpR X (compareOp .NotIn) (rIn K true) := by subst h; exact op_notIn_seq
theorem x_inS {s : Str} {ss : List Str} (S : Sep H0 ft H l) (n : Nat) (h : l[n]? = some (t, p, .lst (ss.map V.str))) (q : Q (.bl (decide (s ∈ ss))) H) : rIn K false (.str s) (.ref p) H Q :=
  ⟨p, _, rfl, .inl (S.sl n h), rfl, flat_strs ss, by rw [inV_str]; exact q⟩
theorem x_niS {s : Str} {ss : List Str} (S : Sep H0 ft H l) (n : Nat) (h : l[n]? = some (t, p, .lst (ss.map V.str))) (q : Q (.bl (!decide (s ∈ ss))) H) : rIn K true (.str s) (.ref p) H Q :=
  ⟨p, _, rfl, .inl (S.sl n h), rfl, flat_strs ss, by rw [inV_str]; exact q⟩
def rAddS : V → V → Hp → VK → Prop := fun x y H Q => ∃ i j, x = .str i ∧ y = .str j ∧ i.length + j.length ≤ sizeLine ∧ Q (.str (i ++ j)) H
theorem op_addS {X : Cx} : OpR X (binaryOp .Add) rAddS := op_add_str
theorem x_addS {a b : Str} (h : a.length + b.length ≤ 100000) (q : Q (.str (a ++ b)) H) : rAddS (.str a) (.str b) H Q := ⟨a, b, rfl, rfl, Nat.le_trans h (by decide), q⟩
theorem x_slStr {s : Str} {lo hi : Option Int} (h : s.length ≤ 100000) (q : Q (.str (cutS s lo hi)) H) : rSlS (.str s) lo hi H Q := ⟨s, rfl, Nat.le_trans h (by decide), q⟩
def rJoin (K : PySem.W.Frag) : V → List V → Hp → VK → Prop := fun x xs H Q => ∃ a p, ∃ ys : List Str, x = .str a ∧ xs = [.ref p] ∧ (SqL K H p (ys.map V.str) ∨ SqT K H p (ys.map V.str)) ∧ (ys.map (·.length)).sum + ys.length * a.length ≤ 16777216 ∧ Q (.str (Txt.join a ys)) H
theorem mt_joinK {X : Cx} (K : PySem.W.Frag) (h : X.K = K := by rfl) : MtR X "str.join" (rJoin K) := by subst h; exact mt_join
theorem x_joinS {s : Str} {ys : List Str} (S : Sep H0 ft H l) (n : Nat) (h : l[n]? = some (t, p, .lst (ys.map V.str))) (hl : (ys.map (·.length)).sum + ys.length * s.length ≤ 16777216) (q : Q (.str (Txt.join s ys)) H) : rJoin K (.str s) [.ref p] H Q := ⟨s, p, ys, rfl, rfl, .inl (S.sl n h), hl, q⟩
theorem x_lcappS {ss : List Str} {s : Str} {R : Hp → Prop} (S : Sep H0 ft H l) (n : Nat) (h : l[n]? = some (t, p, .lst (ss.map V.str))) (hl : ss.length < 100000) (q : ∀ H', Sep H0 ft H' (l.set n (t, p, .lst ((ss ++ [s]).map V.str))) → R H') (ht : t = 1 ∨ t = 2 := by first | exact .inl rfl | exact .inr rfl) :
    rLcA p (.str s) H R := x_lcapp S n h (by rw [List.length_map]; exact hl) (fun H' S' => q H' (by rw [List.map_append]; exact S')) ht
theorem x_appS {ss : List Str} {s : Str} (S : Sep H0 ft H l) (n : Nat) (h : l[n]? = some (t, p, .lst (ss.map V.str))) (hl : ss.length < 100000) (q : ∀ H', Sep H0 ft H' (l.set n (t, p, .lst ((ss ++ [s]).map V.str))) → Q .non H') (ht : t = 1 ∨ t = 2 := by first | exact .inl rfl | exact .inr rfl) :
    rAppend (.ref p) [.str s] H Q := x_app S n h (by rw [List.length_map]; exact hl) (fun H' S' => q H' (by rw [List.map_append]; exact S')) ht
def rStr : V → Hp → (It → Hp → Prop) → Prop := fun v H R => ∃ x, v = .str x ∧ R (Its x) H
def iStr1 (te : TE) : TI := fun σ H R => te σ H fun v H1 => rStr v H1 R
theorem pi_str1 {X : Cx} {tg e : Expr} {te : TE} (he : PE X e te) : PI X tg e (iStr1 te) := pi_str he
theorem x_istr {s : Str} {R : It → Hp → Prop} (q : R (Its s) H) : rStr (.str s) H R := ⟨s, rfl, q⟩
end
/-- small letters alone -/
def Low (s : Str) : Prop := ∀ c ∈ s.cps.toList, 97 ≤ c ∧ c ≤ 122
/-- a name: one to eight small letters -/
structure OkN (s : Str) : Prop where
  l1 : 1 ≤ s.length
  l8 : s.length ≤ 8
  low : Low s
def IsN (v : V) : Prop := ∃ s, v = .str s ∧ OkN s
theorem Low.app {a b : Str} (h : Low a) (h' : Low b) : Low (a ++ b) := fun c hc => by
  have : c ∈ a.cps.toList ++ b.cps.toList := by
    rw [← Array.toList_append]; exact hc
  exact (List.mem_append.mp this).elim (h c) (h' c)
theorem Low.cut {z : Str} {lo hi : Option Int} (h : Low z) : Low (cutS z lo hi) := fun c hc => by
  unfold cutS at hc
  exact h c (List.mem_of_mem_drop (List.mem_of_mem_take hc))
theorem Low.join : ∀ {ys : List Str}, (∀ y ∈ ys, Low y) → Low (Txt.join "" ys) := by
  intro ys h
  rw [TL.join_eq]
  induction ys with
  | nil => exact fun c hc => by cases hc
  | cons y r ih =>
    cases r with
    | nil => exact h y List.mem_cons_self
    | cons z r => exact ((h y List.mem_cons_self).app (fun c hc => by cases hc)).app (ih fun w hw => h w (List.mem_cons_of_mem _ hw))
theorem lay_strs : ∀ {ss : List Str}, (∀ s ∈ ss, Low s) → PyData.canLayAll0 (ss.map PyData.str) = true
  | [], _ => rfl
  | s :: r, h => by
    rw [List.map_cons, PyData.canLayAll0, lay_strs fun w hw => h w (List.mem_cons_of_mem _ hw), Bool.and_true]
    show PyData.strOk s = true
    have := h s List.mem_cons_self
    unfold PyData.strOk
    rw [← Array.all_toList]
    exact List.all_eq_true.mpr fun c hc => decide_eq_true (by have := (this c hc).2; omega)
theorem dep_strs : ∀ ss : List Str, PyData.depthAll (ss.map PyData.str) = 0
  | [] => rfl
  | n :: r => by rw [List.map_cons, PyData.depthAll, dep_strs r]; rfl
theorem sh_strs {ss : List Str} (h : ∀ s ∈ ss, Low s) : SeqAt.shaped (.list (ss.map PyData.str)) = true := by
  unfold SeqAt.shaped
  rw [show PyData.canLay0 (.list (ss.map PyData.str)) = true from lay_strs h, PyData.depth, dep_strs]
  rfl
theorem eqv_strs (ns ms : List Str) : PyData.eqv (.list (ns.map PyData.str)) (.list (ms.map PyData.str)) = decide (ns = ms) := PySem.W.Datum.eqv (α := List Str) ns ms
theorem dp_strs {K : PySem.W.Frag} {H : Hp} : ∀ {ss : List Str}, DpAll K H (ss.map V.str) (ss.map PyData.str)
  | [] => .nil
  | s :: r => .cons (.str s) dp_strs
theorem x_neS {K : PySem.W.Frag} {H0 H : Hp} {ft : List Addr} {l : List Cell} {t t' : Nat} {p q : Addr} {ss ts : List Str} {Q : VK} (S : Sep H0 ft H l) (n m : Nat) (h : l[n]? = some (t, p, .lst (ss.map V.str))) (h' : l[m]? = some (t', q, .lst (ts.map V.str))) (hs : ∀ s ∈ ss, Low s) (ht : ∀ s ∈ ts, Low s) (k : Q (.bl (!decide (ss = ts))) H) : rNeD K (.ref p) (.ref q) H Q :=
  ⟨_, _, .lst (S.sl n h) dp_strs, .lst (S.sl m h') dp_strs, sh_strs hs, sh_strs ht, by rw [eqv_strs]; exact k⟩
theorem at0 {α : Type} {x : α} {xs : List α} : atI (x :: xs) 0 = some x := by
  have := atI_nat (xs := x :: xs) (j := 0) (v := x) rfl
  exact this
theorem sum_ones : ∀ {ys : List Str}, (∀ s ∈ ys, s.length = 1) → (ys.map (·.length)).sum = ys.length
  | [], _ => rfl
  | y :: r, h => by rw [List.map_cons, List.sum_cons, h y List.mem_cons_self, sum_ones fun s m => h s (List.mem_cons_of_mem _ m), List.length_cons]; omega
end G

set_option linter.all false
set_option maxRecDepth 100000
set_option maxHeartbeats 2000000
/-! a, *rest = a tuple -/
namespace G
open PySem PySem.Spec PyProof.Rows
theorem nolen_ti : typeLookup (.type "tuple_iterator") "__len__" = pure none := by rw [typeLookup_type, builtinLookup_eq_fast]; kernel_rfl
theorem hint_ti : typeLookup (.type "tuple_iterator") "__length_hint__" = pure (some (.builtin "tuple_iterator.__length_hint__")) := by rw [typeLookup_type, builtinLookup_eq_fast]; kernel_rfl
section
variable {prog : Program} {w : World} {A : Around} {E : Value → Shared → Prop} {s : Shared}
theorem walks_shift {I : Addr} {fp wr : List Addr} {n k : Nat} {P : Nat → Value → Prop} {St : Nat → Heap → Prop} (W : Walks prog w A I fp wr n P St) (hk : k ≤ n) : Walks prog w A I fp wr (n - k) (fun i v => P (k + i) v) (fun i h => St (k + i) h) where
  sub := W.sub
  frame := fun i h h' st hf => W.frame (k + i) h h' st hf
  item := fun i s Q E hi st hQ => W.item (k + i) s Q E (by omega) st hQ
  done := fun s Q E st hQ => W.done s Q E (by have e : k + (n - k) = n := by omega
                                              rw [e] at st; exact st) hQ
  self := fun i s Q E st hQ => W.self (k + i) s Q E st hQ
theorem collect_ti {it t : Addr} {items : Array Value} {k : Nat} {Q : List Value → Shared → Prop} (hh : A.handled = none) (hit : s.heap.IsTupleIter it t k) (ht : s.heap.IsTuple t items) (hne : t ≠ it) (hk : k ≤ items.size) (hn : items.size ≤ sizeLine)
    (hQ : ∀ (h' : Heap) (tk : Nat) (acc : Array Value), (∀ b o, b ≠ it → s.heap.get? b = some o → h'.get? b = some o) → ItemsOf (fun i v => items[k + i]? = some v) acc (items.size - k) → Q acc.toList { s with heap := h', toks := tk }) :
    wpAny (model prog w) A (collect (.ref it)) Q E s := by
  have W := (walks_shift (Walks.tuple (prog := prog) (w := w) (A := A.in1) hh it t hne items) hk).toS
  obtain ⟨oi, hoi, hci, _⟩ := id hit
  obtain ⟨ol, hol, _⟩ := id ht
  have hSi : s.heap.objs.size ≠ it := Nat.ne_of_gt (Heap.lt_size hoi)
  have hSl : s.heap.objs.size ≠ t := Nat.ne_of_gt (Heap.lt_size hol)
  have hSf : s.heap.objs.size ∉ [it, t] := by simp only [List.mem_cons, List.not_mem_nil, or_false, not_or]; exact ⟨hSi, hSl⟩
  unfold collect
  refine wpAny_bind (wpAny_runValue (codeAny_builtin F.entry_proto_collect ?_))
  rw [Around.under_plainId F.plain_proto_collect _]
  show wpAny _ A.in1 (newList [] >>= fun l' => again (.builtin "list.__iadd__" ⟨[l', .ref it], []⟩)) _ _ s
  refine wpAny_bind (wpAny_newObj_type ?_)
  refine wpAny_pure ⟨plainId_quiet F.plain_list_iadd _, codeAny_builtin F.entry_list_iadd ?_⟩
  rw [Around.under_plainId F.plain_list_iadd _]
  have hS₁ : (s.heap.push { cls := .type "list", data := .seq ([] : List Value).toArray }).get? s.heap.objs.size = some { cls := .type "list", data := .seq ([] : List Value).toArray } := Heap.get?_push_size _ rfl
  have hit1 : (s.heap.push { cls := .type "list", data := .seq ([] : List Value).toArray }).IsTupleIter it t k := hit.at fun o e => Heap.get?_push_of_some _ e
  have ht1 : (s.heap.push { cls := .type "list", data := .seq ([] : List Value).toArray }).IsTuple t items := ht.at fun o e => Heap.get?_push_of_some _ e
  have hT : ({ s with heap := s.heap.push { cls := .type "list", data := .seq ([] : List Value).toArray } } : Shared).TypeIs (.ref it) "tuple_iterator" := ⟨oi, Heap.get?_push_of_some _ hoi, hci⟩
  have h1 : Builtin.List.listSameRef (.ref s.heap.objs.size) (.ref it) = false := by simp [Builtin.List.listSameRef, hSi]
  show wpAny _ A.in1 (Builtin.List.listExtendWith (.ref s.heap.objs.size) (.ref it) (.ref s.heap.objs.size)) _ _ _
  unfold Builtin.List.listExtendWith
  refine wpAny_bind (wpAny_typeOf hT ?_)
  rw [if_neg (by rw [h1]; decide)]
  refine wpAny_bind (wpAny_pyIter_tupleiter (s := { s with heap := s.heap.push { cls := .type "list", data := .seq ([] : List Value).toArray } }) hit1 ?_)
  refine wpAny_bind (wpAny_holding ?_)
  unfold Builtin.List.listLengthHint
  refine wpAny_bind (wpAny_specialOf hT nolen_ti ?_)
  show wpAny _ A.in1 (specialOf (Value.ref it) (Str.ofString "__length_hint__") >>= _) _ _ _
  refine wpAny_bind (wpAny_specialOf hT hint_ti ?_)
  generalize hid : ("tuple_iterator.__length_hint__" : String) = id0
  wp_delta
  rw [show splitId id0 = some ("tuple_iterator", "__length_hint__") from by subst hid; decide +kernel]
  subst hid
  refine wpAny_bind (wpAny_isInstance (b := true) hT (by rw [isSubtype_type]; kernel_rfl) ?_)
  refine wpAny_pure ?_
  rw [if_neg (by decide)]
  refine wpAny_pure ⟨plainId_quiet F.plain_extend_loop _, codeAny_extend_loopS W (by omega) _ hSf _ (items.size - k) 0 _ _ _ rfl (Nat.zero_le _) ⟨hit1, ht1⟩ hS₁ (ItemsOf.nil _) fun s' acc' c' hm hS' hacc => ?_⟩
  show wpAny _ A (load s.heap.objs.size >>= _) _ _ s'
  refine wpAny_bind (wpAny_load hS' ?_)
  refine wpAny_pure ?_
  rw [Moved.eq_with hm]
  refine hQ s'.heap s'.toks acc' (fun b o hb e => hm.heap b o (fun hmem => ?_) (Heap.get?_push_of_some _ e)) hacc
  rcases List.mem_cons.mp hmem with e' | hmem
  · exact absurd (Heap.lt_size e) (by rw [e']; exact Nat.lt_irrefl _)
  · exact hb (List.mem_singleton.mp hmem)
theorem unpackItems_star {t : Addr} {items : Array Value} {k : Nat} {Q : List Value → Shared → Prop} (hh : A.handled = none) (ht : IsTup s.heap t items) (hk : k ≤ items.size) (hn : items.size ≤ sizeLine)
    (hQ : ∀ (h' : Heap) (tk : Nat), Heap.ExtBut s.heap.objs.size s.heap h' → Q (items.toList.take k ++ [.ref h'.objs.size]) { s with heap := h'.push { cls := .type "list", data := .seq (items.toList.drop k).toArray }, toks := tk }) : wpAny (model prog w) A (unpackItems (.ref t) (k + 1) (some k)) Q E s := by
  have hlt : t ≠ s.heap.objs.size := by obtain ⟨o, ho, _⟩ := ht; exact Nat.ne_of_lt (Heap.lt_size ho)
  unfold unpackItems
  refine wpAny_bind ?_
  · unfold notIterableAtAll
    refine wpAny_bind (wpAny_specialOf ht.typeIs slot_tuple_iter.lookup ?_)
    refine wpAny_pure ?_
    simp only [Bool.false_eq_true, if_false]
    refine wpAny_bind (wpAny_holding (iter_tuple ht ?_))
    refine wpAny_bind (wpAny_holding (draw_tuple hlt k 0 _ _ ⟨_, Heap.get?_push_size _ rfl, rfl, rfl⟩ (ht.push _) (by omega) fun h₁ hit₁ hs₁ => ?_))
    rw [List.drop_zero]
    have hl1 : (items.toList.take k).length = k := by rw [List.length_take, Array.length_toList]; omega
    rw [if_neg (by rw [hl1]; omega)]
    have ht₁ : IsTup h₁ t items := (ht.push _).extBut hs₁.extBut hlt
    rw [Nat.zero_add] at hit₁
    refine wpAny_bind (wpAny_holding (collect_ti hh (s := { s with heap := h₁ }) (k := k) hit₁ ht₁ hlt hk hn fun h₂ tk acc hx hacc => ?_))
    have hall : acc.toList = items.toList.drop k := by
      apply List.ext_getElem?
      intro j
      rw [List.getElem?_drop]
      by_cases hj : j < acc.size
      · have e1 : acc.toList[j]? = some acc[j] := by rw [Array.getElem?_toList, Array.getElem?_eq_getElem hj]
        have := hacc.2 j acc[j] (Array.getElem?_eq_getElem hj)
        rw [e1, Array.getElem?_toList, this]
      · have hs := hacc.1
        rw [List.getElem?_eq_none (by rw [Array.length_toList]; omega), List.getElem?_eq_none (by rw [Array.length_toList]; omega)]
    rw [hall]
    rw [show k + 1 - 1 - k = 0 by omega]
    rw [if_neg (by omega), Nat.sub_zero, List.take_length, List.drop_length]
    refine wpAny_bind (wpAny_newList ?_)
    refine wpAny_pure ?_
    rw [List.append_nil]
    exact hQ h₂ tk fun b o hb e => hx b o hb (hs₁.extBut b o hb (Heap.get?_push_of_some _ e))
end
end G
namespace L2
open PySem PySem.Spec PyProof.Rows
section
variable {X : Cx} {pos : Pos}
/-- (a, .., *rest) = a tuple -/
def gStar (K : PySem.W.Frag) (k : Nat) (t : TGs) : TG := fun v σ H Q => ∃ a xs, v = .ref a ∧ SqT K H a xs ∧ k ≤ xs.length ∧ ∀ r, H r = none → t (xs.take k ++ [.ref r]) σ (upd H r (.lst (xs.drop k))) Q
theorem vals_take : ∀ {xs : List V} {us : List Value} (k : Nat), Vals xs us → Vals (xs.take k) (us.take k)
  | _, _, 0, _ => .nil
  | _, _, _ + 1, .nil => .nil
  | _, _, k + 1, .cons r h => .cons r (vals_take k h)
theorem vals_drop : ∀ {xs : List V} {us : List Value} (k : Nat), Vals xs us → Vals (xs.drop k) (us.drop k)
  | _, _, 0, h => h
  | _, _, _ + 1, .nil => .nil
  | _, _, k + 1, .cons _ h => vals_drop k h
theorem pgs_star {e : Expr} {p : Pos} {t : TG} (h1 : PG X e t) : PGs X [.Starred e p] (gCons t gNil) := by
  refine ⟨fun pins s σ H vs us Q I r h => ?_⟩
  obtain ⟨v, vr, e1, h⟩ := h
  subst e1
  cases r with
  | cons r rr =>
    show wpAny _ _ (assignInOrder [assign e X.env] _) _ _ _
    refine assignInOrder_cons (thn (h1.run pins s σ H _ _ _ I r h) fun _ s1 ⟨σ1, H1, I1, q1⟩ => ?_)
    obtain ⟨e2, q1⟩ := q1
    subst e2
    cases rr
    exact assignInOrder_nil ⟨σ1, H1, I1, q1⟩
theorem pg_star {es : List Expr} {j : Nat} {t : TGs} (K : PySem.W.Frag) (k : Nat) (hc : X.calm = true) (h : PGs X es t) (hn : (assignEach es X.env).length = k + 1 := by rfl) (hst : (assignEach es X.env).findIdx? (·.1) = some k := by rfl) (hK : X.K = K := by rfl) : PG X (.Tuple es j pos) (gStar K k t) := by
  subst hK
  refine ⟨fun pins s σ H v u Q I r hw => ?_⟩
  obtain ⟨a, xs, e1, hq, hl, hw⟩ := hw
  subst e1
  cases r
  obtain ⟨its, rv, ht, hz⟩ := I.tuple hq
  rw [PyProof.Rows.assign_Tuple]
  refine wpAny_bind (wpAny_standAt ?_)
  unfold unpack
  rw [hn, hst]
  have hlen := rv.length
  refine wpAny_bind (wpAny_holding (G.unpackItems_star (I.ok.hd hc) ht (by rw [List.size_toArray]; omega) (by rw [List.size_toArray]; omega) fun h' tk hx => ?_))
  have I1 : Inv X pins σ H { s with heap := h', toks := tk } := I.kept (t' := tk) fun b o e => hx b o (Nat.ne_of_lt (Heap.lt_size e)) e
  have I2 := I1.lnew (ys := xs.drop k) (its := its.drop k) (t' := tk) (vals_drop k rv) (by rw [List.length_drop]; omega)
  exact h.run pins _ σ _ (xs.take k ++ [.ref h'.objs.size]) _ Q I2 ((vals_take k rv).append (show Vals [V.ref h'.objs.size] [Value.ref h'.objs.size] from .cons rfl .nil)) (hw _ I1.fresh)
end
end L2

set_option linter.all false
set_option maxRecDepth 100000
/-! cells in a tail; star targets over the cells -/
namespace G
open PySem PySem.Spec PyProof.Rows L2
section
variable {H0 H H' : Hp} {ft : List Addr} {l l' m T : List Cell} {t : Nat} {a p : Addr} {o u : HO} {K : PySem.W.Frag} {σ : L2.St} {Q : VK} {v x y z : V} {i j : Int}
theorem Sep.perm (S : Sep H0 ft H l) (p : l'.Perm l) : Sep H0 ft H l' :=
  ⟨(p.map _).nodup_iff.mpr S.nd, fun c hc => S.rd c (p.mem_iff.mp hc), S.fr, fun c hc => S.wr c (p.mem_iff.mp hc), fun c hc => S.nw c (p.mem_iff.mp hc), S.ex⟩
/-- the new ones go behind the first n -/
theorem Sep.tail (S : Sep H0 ft H (m ++ l)) (n : Nat) : Sep H0 ft H (l.take n ++ (m ++ l.drop n)) := by
  refine S.perm ?_
  have h := List.perm_append_comm_assoc (l.take n) m (l.drop n)
  rw [List.take_append_drop] at h
  exact h
theorem Sep.callM (S : Sep H0 ft H l) (us : List (Nat × Cell)) (hi : AllP (fun u : Nat × Cell => ∃ o, l[u.1]? = some (u.2.1, u.2.2.1, o) ∧ (u.2.1 = 1 ∨ u.2.1 = 2)) us) (hn : (us.map (·.1)).Nodup) (S' : Sep H (us.map (·.2.2.1)) H' (m ++ us.map (fun u => (1, u.2.2)))) (hm : ∀ c ∈ m, c.1 = 2) :
    Sep H0 ft H' (m ++ us.foldl (fun l u => l.set u.1 u.2) l) := by
  have hi1 : ∀ u ∈ us, ∃ o, l[u.1]? = some (u.2.1, u.2.2.1, o) := fun u hu => let ⟨o, h, _⟩ := hi.all u hu; ⟨o, h⟩
  have S1 := S.chgs us hi1 (fun u hu => let ⟨_, _, h⟩ := hi.all u hu; h) hn S'.fr (fun u hu => S'.rd (1, u.2.2) (List.mem_append_right _ (List.mem_map.mpr ⟨u, hu, rfl⟩)))
  exact S.join S1 (fold_addr hi1 hn) S' hm
theorem Sep.cellT (S : Sep H0 ft H l) (n : Nat) {c : Cell} (h : c ∈ l.drop n) : H c.2.1 = some c.2.2 := S.rd c (List.mem_of_mem_drop h)
theorem cl_listK2 : True := trivial
/-- a cell of the tail -/
theorem Sep.cell (S : Sep H0 ft H l) {c : Cell} (h : c ∈ l) : H c.2.1 = some c.2.2 := S.rd c h
theorem x_star {n : Nat} {xs : List V} {tg : TGs} {Qg : L2.St → Hp → Prop} (S : Sep H0 ft H l) (h : SqT K H p xs) (hl : n ≤ xs.length) (q : ∀ r H', Sep H0 ft H' ((2, r, .lst (xs.drop n)) :: l) → tg (xs.take n ++ [.ref r]) σ H' Qg) : gStar K n tg (.ref p) σ H Qg :=
  ⟨p, xs, rfl, h, hl, fun r hr => q r _ (S.new hr _)⟩
theorem x_ixTf {xs : List V} (h : H p = some (.tup xs)) (ha : atI xs i = some v) (q : Q v H) : rIxT K (.ref p) (.int i) H Q := ⟨p, xs, i, v, rfl, rfl, .of h, ha, q⟩
theorem x_catT {q1 : Addr} {t' : Nat} {xs ys : List V} (S : Sep H0 ft H l) (n m : Nat) (h : l[n]? = some (t, p, .tup xs)) (h' : l[m]? = some (t', q1, .tup ys)) (h0 : xs ≠ []) (h1 : ys ≠ []) (hl : xs.length + ys.length ≤ 100000) (q : ∀ r H', Sep H0 ft H' ((2, r, .tup (xs ++ ys)) :: l) → Q (.ref r) H') : rCatT K (.ref p) (.ref q1) H Q :=
  ⟨p, q1, xs, ys, rfl, rfl, S.st n h, S.st m h', h0, Nat.le_trans hl (by decide), fun e => absurd e h1, fun _ => x_new S _ q⟩
theorem op_catTK {X : Cx} (K : PySem.W.Frag) (h : X.K = K := by rfl) : OpR X (binaryOp .Add) (rCatT K) := by subst h; exact op_catT
theorem x_dgetF {od : Obj} {kvs : List (Key × V)} {k : Key} (S : Sep H0 ft H l) (n : Nat) (h : l[n]? = some (t, p, .frz od (.dK kvs))) (hv : valV kvs k = some v) (q : Q v H) : rDGet (.ref p) (kV k) H Q := ⟨p, v, rfl, .inl ⟨kvs, k, .inr ⟨od, S.get n h⟩, rfl, hv.symm⟩, q⟩
end
end G

set_option linter.all false
set_option maxRecDepth 100000
/-! exceptions: raised, let out of a method, caught -/
namespace G
open PySem PySem.Spec PyProof.Rows L2
/-- a class of the program's own, below ValueError, without an __init__ -/
structure ExcC (K : PySem.W.Frag) (mg : Str → Option Value) (x : Str) (C : Addr) : Prop where
  g : mg x = some (.ref C)
  q : PySem.W.excIn K C [.type "ValueError", .type "Exception", .type "BaseException", .type "object"] "ValueError.__new__" = true
  k : PySem.W.keepIn K (.ref C) = true
  s : PySem.W.subIn K (.ref C) (.type "BaseException") = some true
  t : PySem.W.typeIn K (.ref C) = some (.type "type")
theorem ps_raiseC {X : Cx} {W : WX} {x m : Str} {C : Addr} {j : Nat} {p p2 pos pos2 : Pos} (c : ExcC X.K X.mg x C) (hc : X.calm = true) (tk : Takes X W) (hg : Gl X x) (hdb : (x == ("__debug__" : Str)) = false := by decide) :
    PS X (.Raise (some (.Call (.Name x p) [.Constant (.str m) j p2] [] pos)) none pos2) (fun _ σ H => W (.ref C) none σ H) :=
  ps_raise hc tk (pmk_own F.excBase_ValueError c.q c.g c.k (raises_own c.s c.t) hg hdb)
theorem exm_sub {K : PySem.W.Frag} {S T : Addr} (h1 : PySem.W.subIn K (.ref T) (.type "BaseException") = some true) (h2 : PySem.W.isClsIn K T = true) (h3 : PySem.W.typeIn K (.ref T) = some (.type "type")) {b : Bool} (h4 : PySem.W.subIn K (.ref S) (.ref T) = some b) :
    PySem.W.exmOne K (.ref S) (.ref T) = some b := by
  have e1 : (PySem.W.subIn K (.ref T) (.type "BaseException") == some true) = true := by rw [h1] <;> rfl
  have e2 : ((PySem.W.clsIn K T).isSome && PySem.W.typeIn K (.ref T) == some (.type "type")) = true := by
    have h2' : (PySem.W.clsIn K T).isSome = true := h2
    rw [h2', h3] <;> rfl
  show (if (PySem.W.subIn K (.ref T) (.type "BaseException") == some true) = true then (if ((PySem.W.clsIn K T).isSome && PySem.W.typeIn K (.ref T) == some (.type "type")) = true then PySem.W.subIn K (.ref S) (.ref T) else none) else none) = some b
  rw [if_pos e1, if_pos e2]
  exact h4
/-- a method that may let an exception out, under a try -/
def tMethS1 (C : Addr) (m : Str) (sp : Sp) (E : L2.St → XK) (ta : TE) (t : TA) : TE := fun σ H Q => ta σ H fun x H1 => rMe C m x H1 (t σ H1 fun vs H2 => sp (x :: vs) H2 Q (E σ))
section
variable {X : Cx} {CX : CXT} {k j : Nat} {C : Addr} {x m : Str} {sp : Sp} {E : L2.St → XK} {p pos apos : Pos} {e o : Expr} {es : List Expr} {ta : TE} {t : TA}
theorem pe_mtS {pl : Sem Bool} (c : Met X.prog X.w X.K X.mg X.base CX k C m sp) (hr : Room k X.A) (hx : ∀ σ, PassesAt CX X σ (E σ)) (he : PE X o ta) (ha : PA X (e :: es) t)
    (hst : starEach (e :: es) X.env = (false, eval e X.env) :: starEach es X.env := by rfl) (hpl : (backTo pos (starEach es X.env)).any (·.1) = false := by rfl)
    (ht : eval (.Call (.Attribute o m apos) (e :: es) [] pos) X.env = (do
      let ov ← eval o X.env
      standAt apos.atName
      let (f, first) ← holding [ov] (getMethod ov m pl)
      callWith pos f first (backTo pos (starEach (e :: es) X.env)) (backToKw pos (keywordEach [] X.env))) := by rfl) :
    PE X (.Call (.Attribute o m apos) (e :: es) [] pos) (tMethS1 C m sp E ta t) := by
  obtain ⟨f, fd, ps, c1, hm, F, b⟩ := c.ex
  refine ⟨fun pins s σ H Q I h => ?_⟩
  refine PySem.W.methodCall_KW (pl := pl) (thn (he.run pins s σ H _ I h) fun u s1 ⟨x, H1, I1, rx, a, dx, fs, ex, ea, l, q⟩ => ?_) ht
  subst ex
  obtain rfl : u = Value.ref a := rx
  refine getmeth_ok I1 ea c1 hm l ?_
  refine PySem.W.callWith_K (first := [.ref a]) (h₀ := X.base) I.ok.mod.kin hm.kp (thn (ha.run pos pins s1 σ H1 _ I1 q) fun us s2 ⟨vs, H2, I2, r, q2⟩ => ⟨I2.kIn, ?_⟩) hst hpl
  exact run_fnS (us := .ref a :: us) (vs := .ref a :: vs) F hr b (hx σ) I2 (.cons rfl r) q2
theorem pe_mtS0 {pl : Sem Bool} (c : Met X.prog X.w X.K X.mg X.base CX k C m sp) (hr : Room k X.A) (hx : ∀ σ, PassesAt CX X σ (E σ)) (he : PE X o ta)
    (ht : eval (.Call (.Attribute o m apos) [] [] pos) X.env = (do
      let ov ← eval o X.env
      standAt apos.atName
      let (f, first) ← holding [ov] (getMethod ov m pl)
      callWith pos f first (backTo pos (starEach [] X.env)) (backToKw pos (keywordEach [] X.env))) := by rfl) :
    PE X (.Call (.Attribute o m apos) [] [] pos) (tMethS1 C m sp E ta tNil) := by
  obtain ⟨f, fd, ps, c1, hm, F, b⟩ := c.ex
  refine ⟨fun pins s σ H Q I h => ?_⟩
  refine PySem.W.methodCall_KW (pl := pl) (thn (he.run pins s σ H _ I h) fun u s1 ⟨x, H1, I1, rx, a, dx, fs, ex, ea, l, q⟩ => ?_) ht
  subst ex
  obtain rfl : u = Value.ref a := rx
  refine getmeth_ok I1 ea c1 hm l ?_
  exact PySem.W.callWith_K0 (first := [.ref a]) I1.kIn hm.kp (run_fnS (us := [.ref a]) (vs := [.ref a]) F hr b (hx σ) I1 (.cons rfl .nil) q)
end
end G

set_option linter.all false
set_option maxRecDepth 100000
set_option maxHeartbeats 4000000
/-! an exception that is kept in a variable behind its clause, and asked by isinstance; a method that is called by names and may raise -/
namespace G
open PySem PySem.Spec PyProof.Rows L2
/-- an exception object of the class cls stands at a -/
def ExS (cls : Value) (d : Option Addr) (a : Addr) : HO := .ext fun h => ∃ (oe : Obj) (vs : Array Value), h.get? a = some oe ∧ Zc cls d oe ∧ oe.data = .fields vs
theorem exS_ok {P : Program} {w : World} {H : Hp} {h : Heap} {a : Addr} {cls : Value} {d : Option Addr} {oe : Obj} {vs : Array Value} (e : h.get? a = some oe) (z : Zc cls d oe) (f : oe.data = .fields vs) : ObjOk P w H h a (ExS cls d a) :=
  ⟨⟨oe, vs, e, z, f⟩, ⟨oe, e⟩, fun _ _ ⟨o, v, q, r⟩ k => ⟨o, v, k o q, r⟩⟩
/-- a thing of the heap that no one looks after is looked after from now on -/
theorem Inv.track {X : Cx} {pins : List (Addr × Obj)} {σ : L2.St} {H : Hp} {s : Shared} {a : Addr} {o : HO} (I : Inv X pins σ H s) (h0 : X.s_0.heap.get? a = none) (hn : H a = none) (hp : ∀ p ∈ X.pn ++ pins, p.1 ≠ a) (hl : a ≠ X.env.locals)
    (hc : ∀ x c, X.env.cells.lookup x = some c → c ≠ a) (new : ObjOk X.prog X.w (upd H a o) s.heap a o) : Inv X pins σ (upd H a o) s := by
  have was : ∀ {b u}, H b = some u → b ≠ a := fun {b u} e z => by rw [z, hn] at e; cases e
  have old : ∀ {b u}, X.s_0.heap.get? b = some u → b ≠ a := fun {b u} e z => by rw [z, h0] at e; cases e
  exact ⟨I.ok, I.os, I.bare, ⟨I.base.keep, I.base.slot, fun b u e n x => by rw [upd_ne (old e)]; exact I.base.free b u e n x, I.base.there,
      fun b xs e => by have q := I.base.tups b xs e; rw [upd_ne (was q)]; exact q, fun b u v e => by have q := I.base.frzs b u v e; rw [upd_ne (was q)]; exact q,
      fun b ps e => by obtain ⟨m, q⟩ := I.base.tbls b ps e; exact ⟨m, by rw [upd_ne (was q)]; exact q⟩⟩,
    I.loc, I.cell, by rw [upd_ne (Ne.symm hl)]; exact I.free, fun x c e => by rw [upd_ne (hc x c e)]; exact I.freeC x c e,
    fun p m => by obtain ⟨e, n, r⟩ := I.pin p m; exact ⟨e, by rw [upd_ne (hp p m)]; exact n, r⟩, fun b u e => by
      by_cases hb : b = a
      · subst hb; rw [upd_same] at e; cases e; exact new
      · rw [upd_ne hb] at e
        exact (I.hok b u e).stay (fun c v _ q => q) (fun c q => by rw [upd_ne (was q)]; exact q) fun c xs q => by rw [upd_ne (was q)]; exact q, I.len⟩
/-- what 'except x as n' wishes, where the exception is kept: slot i is n's -/
def wKeep (K : PySem.W.Frag) (c : Value) (i : Nat) (ts : Addr → Value → Option Addr → TS) (Wout : WX) (D : Ends) : WX := fun cls d σ H =>
  ∃ b, PySem.W.exmOne K cls c = some b ∧
    (b = true → ∀ a, H a = none → ts a cls d ⟨fun σ' H' => H' a = none → D.nx (σ'.set i none) (upd H' a (ExS cls d a)), fun _ _ => False, fun _ _ => False, fun _ _ => False⟩ (σ.set i (some (.ref a))) H) ∧ (b = false → Wout cls d σ H)
section
variable {X : Cx} {x n : Str} {c : Value} {i : Nat} {body suite : List Stmt} {b₀ : Stmt} {np pos pos' : Pos} {tb : WX → TS} {ts : Addr → Value → Option Addr → TS} {Wout : WX}
theorem ps_try_keep (hs : X.stack = X.env :: X.outer) (hf : X.env.frame = some X.env.locals) (hN : X.N.Nodup) (hi : X.N[i]? = some n) (hln : X.env.kindOf n = some .local) (hc : Names X x c) (tk : Takes X Wout) (hex : X.ex = [])
    (hb : ∀ (W : WX) (pn : List (Addr × Obj)) (xe : Value → Shared → Prop), Takes (X.tr pn xe) W → PassesOwn (model X.prog X.w) X.A X.env xe → PSs (X.tr pn xe) body (tb W))
    (hsu : ∀ (a : Addr) (oe : Obj) (cls : Value) (d : Option Addr) (pn : List (Addr × Obj)), Zc cls d oe → (∃ vs, oe.data = .fields vs) → PSs (X.suite a ((a, oe) :: pn)) (b₀ :: suite) (ts a cls d)) :
    PS X (.Try body [.ExceptHandler (some (.Name x np)) (some n) (b₀ :: suite) pos'] [] [] pos) (fun D σ H => tb (wKeep X.K c i ts Wout D) D σ H) := by
  refine ⟨fun pins s σ H D I h => ?_⟩
  have ok := I.ok
  have hfr : X.A.frames = some (X.env :: X.outer) := by rw [ok.frames, hs]
  refine wpAny_Try_except ?_
  refine wpAny_mono ((hb (wKeep X.K c i ts Wout D) (X.pn ++ pins) (fun e s₁ => wpAny (model X.prog X.w) X.A (noteFrame e X.env) (fun _ s₂ => wpAny (model X.prog X.w) X.A (setFlight e none) (fun _ s₃ =>
    wpAny (model X.prog X.w) X.A (handleBy e X.env [.ExceptHandler (some (.Name x np)) (some n) (b₀ :: suite) pos']) (SP X pins D) X.xe s₃) X.xe s₂) X.xe s₁) (fun u s' xx => ?_) PassesOwn.looking).run [] s σ H D (I.toTry _) h) (fun f s1 hsp => ?_) (fun e s1 he => he)
  · obtain ⟨a, B, sI, pins', σ', H', cls, d, rfl, J', nb, up, sky, na, os, ag, b, hb1, hyes, hno⟩ := xx
    have J : Inv X pins σ' H' sI := J'.ofTry ok
    have sky' : Sky B (X.env :: X.outer) a (Zc cls d) X.env.locals s'.heap := by rw [← hs]; exact sky
    show wpAny _ _ (noteFrame (.ref a) X.env) _ _ _
    refine Sky.land Zc.steady hfr hf sky' fun h3 fl3 up3 => ?_
    have land : ∀ {h4 : Heap}, B.StaysIn h4 → s'.heap.UpToSlots h4 → Inv X pins σ' H' { s' with heap := h4 } := fun st u4 => J.landed nb st (up.trans u4) os ag
    -- the exception is none of the frames, and new
    have apart : a ∉ frs (X.env :: X.outer) := fun hm => by
      obtain ⟨oe, vs, he, _, hd⟩ := fl3.there
      obtain ⟨_, o', e', hnf⟩ := fl3.2.2.1.mem hm
      rw [he] at e'; cases e'
      exact hnf _ hd
    have nL : a ≠ X.env.locals := fun z => apart (List.mem_filterMap.mpr ⟨X.env, List.mem_cons_self, by rw [hf, z]⟩)
    have nF : a ∉ X.fs := fun hm => by
      obtain ⟨e, he, q⟩ := List.mem_filterMap.mp hm
      exact apart (List.mem_filterMap.mpr ⟨e, List.mem_cons_of_mem _ he, q⟩)
    have nI : sI.heap.get? a = none := by
      cases e : sI.heap.get? a with
      | none => rfl
      | some o =>
        have z := nb a o e (by rw [hs]; exact apart)
        rw [fl3.2.1] at z
        cases z
    have n0 : X.s_0.heap.get? a = none := by
      cases e : X.s_0.heap.get? a with
      | none => rfl
      | some o =>
        obtain ⟨o', z⟩ := J.base.there a o e (by rw [hex]; exact fun z => nomatch z)
        rw [nI] at z
        cases z
    have nP : ∀ p ∈ X.pn ++ pins, p.1 ≠ a := fun p hp z => by
      have q := (J.pin p hp).1
      rw [z, nI] at q
      cases q
    obtain ⟨oe3, vs3, he3, hz3, hd3⟩ := fl3.there
    have S3 := (land fl3.1 up3).suite he3 hd3 na nL nF
    refine wpAny_handleBy_cons (codeAny_handlers_test ?_) (by intro q; cases q)
    have LM := PySem.W.exm_one (M := model X.prog X.w) (cls := cls) ((land fl3.1 up3).kIn) (fun A Q E s k q => wpAny_typeOf_ref (k _ _ he3) (by rw [hz3.1]; exact q)) hb1
    have test : ∀ {Q : Value → Shared → Prop} {E : Value → Shared → Prop}, Q c { s' with heap := h3 } → wpAny (model X.prog X.w) (X.A.mark (some (.ref a))) (eval (.Name x np) X.env) Q E { s' with heap := h3 } := fun {Q E} q => by
      obtain ⟨hg, hdbg, hm | ⟨hm, hv, hnn⟩⟩ := hc
      · exact ld_glob (X := X.suite a ((a, oe3) :: (X.pn ++ pins))) S3 hg hm q hdbg
      · exact ld_blt (X := X.suite a ((a, oe3) :: (X.pn ++ pins))) S3 hg hm hv q hnn hdbg
    refine test (LM.here ?_)
    cases b with
    | true =>
      refine codeAny_handlers_suite_as ?_
      refine HandSPX.lands_againZ fl3 fun h4 fl4 up4 => ?_
      obtain ⟨oe4, vs4, he4, hz4, hd4⟩ := fl4.there
      have S4 := (land fl4.1 (up3.trans up4)).suite he4 hd4 na nL nF
      refine store_ok (X := X.suite a ((a, oe4) :: (X.pn ++ pins))) (v := .ref a) S4 hN hi (.inl hln) rfl (fun s5 S5 => ?_) (.inr hln)
      refine wpAny_mono ((hsu a oe4 cls d (X.pn ++ pins) hz4 ⟨_, hd4⟩).run [] s5 _ H' _ S5 (hyes rfl a na)) (fun f s6 hsp => ?_) (fun _ _ z => False.elim z)
      cases f with
      | next =>
        obtain ⟨σ6, H6, S6, q6⟩ := hsp
        obtain ⟨p1, p2, _⟩ := S6.pin (a, oe4) (List.mem_append_left _ List.mem_cons_self)
        have p1 : s6.heap.get? a = some oe4 := p1
        have p2 : H6 a = none := p2
        have U6 := S6.unsuite ok
        have J6 := Inv.track U6 n0 p2 nP nL (fun y cc e z => by
          obtain ⟨v, o, e1, e2⟩ := U6.cell y cc e
          rw [z, p1] at e1
          cases e1
          rw [hd4] at e2
          cases e2) (exS_ok p1 hz4 hd4)
        exact gone_ok J6 hN hi hln fun s7 J7 => ⟨_, _, J7, q6 p2⟩
      | brk => obtain ⟨_, _, _, z⟩ := hsp; exact z.elim
      | cont => obtain ⟨_, _, _, z⟩ := hsp; exact z.elim
      | ret u => obtain ⟨_, _, _, _, _, z⟩ := hsp; exact z.elim
    | false =>
      show wpAny _ X.A (handleBy (.ref a) X.env []) _ _ _
      refine wpAny_handleBy_nil ?_
      obtain ⟨k1, k2, k3, oe, vs, T, oT, ts', he, hz, hd, h1, hr⟩ := id fl3
      unfold PySem.passOn
      refine wpAny_bind (wpAny_field he hd h1 ?_)
      rw [if_neg (show ¬ ((Value.ref T == Value.none) = true) from by simp)]
      have fin : wpAny (model X.prog X.w) X.A (setFlight (.ref a) X.env.frame) (fun _ s4 => wpAny (model X.prog X.w) X.A (throw (.ref a) : Sem Flow) (SP X pins D) X.xe s4) X.xe { s' with heap := h3 } := by
        rw [hf]
        refine HandSPX.setFlight_upZ fl3 fun h4 hh4 up4 => wpAny_throw (tk _ _ ?_)
        exact ⟨a, B, sI, pins, σ', H', cls, d, rfl, J, nb, (up.trans up3).trans up4, .inr (.inr (by rw [hs]; exact hh4)), na, os, ag, hno rfl⟩
      first
        | exact wpAny_bind (wpAny_pure (wpAny_bind fin))
        | exact wpAny_bind fin
  · cases f with
    | next =>
      obtain ⟨σ', H', J', q⟩ := hsp
      exact wpAny_execs_nil ⟨σ', H', J'.ofTry ok, q⟩
    | brk =>
      obtain ⟨σ', H', J', q⟩ := hsp
      exact ⟨σ', H', J'.ofTry ok, q⟩
    | cont =>
      obtain ⟨σ', H', J', q⟩ := hsp
      exact ⟨σ', H', J'.ofTry ok, q⟩
    | ret u =>
      obtain ⟨v, σ', H', J', r, q⟩ := hsp
      exact ⟨v, σ', H', J'.ofTry ok, r, q⟩
end
/-- isinstance(e, c), e an exception that was kept -/
def rIsX (K : PySem.W.Frag) : List V → Hp → VK → Prop := fun xs H Q => ∃ (a C : Addr) (c : V) (cv : Value) (b : Bool), xs = [.ref a, c] ∧ H a = some (ExS (.ref C) none a) ∧ _root_.L2.ExcC K C ∧ ClsV c cv ∧ PySem.W.kitOne K (.ref C) cv = some b ∧ Q (.bl b) H
theorem call_isX {X : Cx} : CallR X (.builtin "isinstance") (rIsX X.K) := by
  intro pins s σ H xs us Q I r ⟨a, D, c, cv, b, e0, ha, C, k, e, q⟩
  subst e0
  obtain ⟨u1, u2, rfl, r1, r2⟩ := vals2 r
  have ec := k.eq r2
  subst ec
  cases (show u1 = Value.ref a from r1)
  obtain ⟨⟨oe, vs, h1, hz, hv⟩, _, _⟩ := (show ObjOk X.prog X.w H s.heap a (ExS (.ref D) none a) from I.hok a _ ha)
  have J : PySem.W.InstAt s.heap a oe D none := by
    obtain ⟨oc, od, oda, osl⟩ := oe
    obtain ⟨h2, h3⟩ := hz
    dsimp only at h2 h3 hv
    subst h2 h3 hv
    exact ⟨h1, rfl, rfl, trivial⟩
  exact PySem.W.kia_one (PySem.W.handS_kitx_exc C.hg C.hk C.hs C.hd C.ha C.hn C.ht C.hm) I.kIn J e (fun z => nomatch z) fun tk => ⟨.bl b, H, I.tok tk, rfl, q⟩
theorem cl_isX {X : Cx} (K : PySem.W.Frag) (h : X.K = K := by rfl) : CallR X (.builtin "isinstance") (rIsX K) := by subst h; exact call_isX
/-- a def that keeps two promises keeps either -/
theorem FnOk.or {P : Program} {w : World} {K : PySem.W.Frag} {mg : Str → Option Value} {base : Heap} {CX : CXT} {k : Nat} {f : Addr} {fd : FuncData} {ps : List Str} {sp sp' : Sp} (F : FnOk P w K mg base CX k f fd ps sp) (F' : FnOk P w K mg base CX k f fd ps sp') :
    FnOk P w K mg base CX k f fd ps (fun vs H Q E => sp vs H Q E ∨ sp' vs H Q E) where
  len := fun vs H Q E h => h.elim (F.len _ _ _ _) (F'.len _ _ _ _)
  run := fun A outer s H as us vs Q E h1 h2 h3 h4 h => h.elim (F.run A outer s H as us vs Q E h1 h2 h3 h4) (F'.run A outer s H as us vs Q E h1 h2 h3 h4)
section
variable {X : Cx} {CX : CXT} {k j n : Nat} {C f : Addr} {fd : FuncData} {ps : List Str} {g : List Value → List Value → List Value} {gV : List V → List V → List V} {x m : Str} {sp : Sp} {E : L2.St → XK} {p pos apos : Pos} {e o : Expr} {kws : List Keyword} {ks : List Str} {is : List Nat} {ta : TE} {t tk : TA}
theorem run_fnNS {pins : List (Addr × Obj)} {σ : L2.St} {H : Hp} {s : Shared} {Q : VK} {us ws : List Value} {vs zs : List V} (F : FnOk X.prog X.w X.K X.mg X.base CX k f fd ps sp) (hr : Room k X.A) (hb : KBn X.K fd ps n ks g gV) (hx : PassesAt CX X σ (E σ))
    (I : Inv X pins σ H s) (r : Vals vs us) (rz : Vals zs ws) (l1 : vs.length = n) (l2 : zs.length = ks.length) (h : sp (gV vs zs) H Q (E σ)) : wpAny (model X.prog X.w) X.A (call (.ref f) us (ks.zip ws)) (EP X pins σ Q) X.xe s :=
  wpAny_call (codeAny_mono (F.run X.A X.stack s H ⟨us, ks.zip ws⟩ (g us ws) (gV vs zs) Q (E σ) hr I.env0 (hb.to s us ws I.kIn (r.length.symm.trans l1) (rz.length.symm.trans l2)) (hb.rel r rz) h) fun r s' hq => match r, hq with
    | .error e, hq => hx pins H s e s' I hq
    | .ok (.ret u), hq => I.after hq)
def tMethKS1 (C : Addr) (m : Str) (n : Nat) (is : List Nat) (sp : Sp) (E : L2.St → XK) (ta : TE) (tk : TA) : TE := fun σ H Q => ta σ H fun x H1 => rMe C m x H1 (tk σ H1 fun zs H2 => zs.length = n ∧ sp ([x] ++ kwp is zs) H2 Q (E σ))
theorem pe_mtKS {pl : Sem Bool} (c : MetK X.prog X.w X.K X.mg X.base CX k C m ks is sp) (hr : Room j X.A) (hk : k ≤ j) (hx : ∀ σ, PassesAt CX X σ (E σ)) (he : PE X o ta) (hkw : PK X kws tk)
    (hall : (backToKw pos (keywordEach kws X.env)).all (·.1.isSome) = true := by rfl) (hks : (backToKw pos (keywordEach kws X.env)).filterMap (·.1) = ks := by rfl)
    (hpl : ((backTo pos (starEach [] X.env)).any (·.1) || (backToKw pos (keywordEach kws X.env)).any (·.1.isNone)) = false := by rfl)
    (ht : eval (.Call (.Attribute o m apos) [] kws pos) X.env = (do
      let ov ← eval o X.env
      standAt apos.atName
      let (f, first) ← holding [ov] (getMethod ov m pl)
      callWith pos f first (backTo pos (starEach [] X.env)) (backToKw pos (keywordEach kws X.env))) := by rfl) :
    PE X (.Call (.Attribute o m apos) [] kws pos) (tMethKS1 C m ks.length is sp E ta tk) := by
  obtain ⟨f, fd, ps, c1, hm, F, b⟩ := c.ex
  refine ⟨fun pins s σ H Q I h => ?_⟩
  refine PySem.W.methodCall_KW (pl := pl) (thn (he.run pins s σ H _ I h) fun u s1 ⟨x, H1, I1, rx, a, dx, fs, ex, ea, l, q⟩ => ?_) ht
  subst ex
  obtain rfl : u = Value.ref a := rx
  refine getmeth_ok I1 ea c1 hm l ?_
  refine PySem.W.callWith_KW0 (first := [.ref a]) (h₀ := X.base) I.ok.mod.kin hm.kp hall (thn (hkw.run pos pins s1 σ H1 _ I1 q) fun ws s2 ⟨zs, H2, I2, rz, l2, q2⟩ => ⟨I2.kIn, ?_⟩) hpl
  rw [hks]
  exact run_fnNS (us := [.ref a]) (vs := [.ref a]) F (hr.mono hk) b (hx σ) I2 (.cons rfl .nil) rz rfl l2 q2
end
end G

set_option linter.all false
set_option maxRecDepth 100000
set_option maxHeartbeats 4000000
/-! lists of pairs of ints and lists of bools compared, a list repeated, isinstance of a kept exception, a callee's new cells ahead -/
namespace G
open PySem PySem.Spec PyProof.Rows L2
section
variable {H0 H H' : Hp} {ft : List Addr} {l m : List Cell} {t t' : Nat} {p q : Addr} {K : PySem.W.Frag} {Q : VK}
theorem Sep.callN (S : Sep H0 ft H l) (S' : Sep H [] H' m) (hm : ∀ c ∈ m, c.1 = 2) : Sep H0 ft H' (m ++ l) :=
  S.callM [] trivial List.nodup_nil (by simpa using S') hm
abbrev pairD (p : Int × Int) : PyData := .tuple [.int p.1, .int p.2]
theorem lay_prs : ∀ ps : List (Int × Int), PyData.canLayAll0 (ps.map pairD) = true
  | [] => rfl
  | p :: r => by rw [List.map_cons, PyData.canLayAll0, lay_prs r]; rfl
theorem dep_prs : ∀ ps : List (Int × Int), PyData.depthAll (ps.map pairD) ≤ 1
  | [] => Nat.zero_le _
  | p :: r => by
    rw [List.map_cons, PyData.depthAll]
    have := dep_prs r
    have h1 : PyData.depth (pairD p) = 1 := rfl
    omega
theorem sh_prs (ps : List (Int × Int)) : SeqAt.shaped (.list (ps.map pairD)) = true := by
  unfold SeqAt.shaped
  rw [show PyData.canLay0 (.list (ps.map pairD)) = true from lay_prs ps, PyData.depth, Bool.true_and]
  exact decide_eq_true (by have := dep_prs ps; omega)
theorem eqv_prs (ps qs : List (Int × Int)) : PyData.eqv (.list (ps.map pairD)) (.list (qs.map pairD)) = decide (ps = qs) := PySem.W.Datum.eqv (α := List (Int × Int)) ps qs
/-- the things of xs are tuples of these pairs -/
def PrsAt (H : Hp) : List V → List (Int × Int) → Prop := Paired fun v p => ∃ a : Addr, v = .ref a ∧ H a = some (.tup [.int p.1, .int p.2])
theorem dp_prs : ∀ {xs : List V} {ps : List (Int × Int)}, PrsAt H xs ps → DpAll K H xs (ps.map pairD)
  | _, _, .nil => .nil
  | _, _, .cons ⟨a, e, h⟩ r => by
    subst e
    exact .cons (.tup (.of h) (dp_ints (ns := [_, _]))) (dp_prs r)
theorem x_neWW {xs ys : List V} {ps qs : List (Int × Int)} (S : Sep H0 ft H l) (n m : Nat) (h : l[n]? = some (t, p, .lst xs)) (h' : l[m]? = some (t', q, .lst ys)) (hx : PrsAt H xs ps) (hy : PrsAt H ys qs) (k : Q (.bl (!decide (ps = qs))) H) : rNeD K (.ref p) (.ref q) H Q :=
  ⟨_, _, .lst (S.sl n h) (dp_prs hx), .lst (S.sl m h') (dp_prs hy), sh_prs ps, sh_prs qs, by rw [eqv_prs]; exact k⟩
theorem lay_bls : ∀ ps : List Bool, PyData.canLayAll0 (ps.map PyData.bool) = true
  | [] => rfl
  | p :: r => by rw [List.map_cons, PyData.canLayAll0, lay_bls r]; rfl
theorem dep_bls : ∀ ps : List Bool, PyData.depthAll (ps.map PyData.bool) = 0
  | [] => rfl
  | p :: r => by rw [List.map_cons, PyData.depthAll, dep_bls r]; rfl
theorem sh_bls (ps : List Bool) : SeqAt.shaped (.list (ps.map PyData.bool)) = true := by
  unfold SeqAt.shaped
  rw [show PyData.canLay0 (.list (ps.map PyData.bool)) = true from lay_bls ps, PyData.depth, dep_bls]
  rfl
theorem eqv_bls (ps qs : List Bool) : PyData.eqv (.list (ps.map PyData.bool)) (.list (qs.map PyData.bool)) = decide (ps = qs) := PySem.W.Datum.eqv (α := List Bool) ps qs
theorem dp_bls : ∀ {ps : List Bool}, DpAll K H (ps.map V.bl) (ps.map PyData.bool)
  | [] => .nil
  | b :: r => .cons (.bl b) dp_bls
theorem x_eqB {ps qs : List Bool} {b : Bool} (S : Sep H0 ft H l) (n m : Nat) (h : l[n]? = some (t, p, .lst (ps.map V.bl))) (h' : l[m]? = some (t', q, .lst (qs.map V.bl))) (e : decide (ps = qs) = b) (k : Q (.bl b) H) : rEqD K (.ref p) (.ref q) H Q :=
  ⟨_, _, .lst (S.sl n h) dp_bls, .lst (S.sl m h') dp_bls, sh_bls ps, sh_bls qs, by rw [eqv_bls, e]; exact k⟩
theorem x_rep {xs : List V} {i : Int} (S : Sep H0 ft H l) (n : Nat) (h : l[n]? = some (t, p, .lst xs)) (h0 : 0 ≤ i) (h1 : i < 1000) (hl : xs.length * i.toNat ≤ 100000) (q : ∀ r H', Sep H0 ft H' ((2, r, .lst (List.replicate i.toNat xs).flatten) :: l) → Q (.ref r) H') : rRep (.ref p) (.int i) H Q :=
  ⟨p, i, xs, rfl, rfl, S.get n h, by omega, by omega, Nat.le_trans hl (by decide), x_new S _ q⟩
theorem x_isX {a D : Addr} {c : V} {cv : Value} {b : Bool} (S : Sep H0 ft H l) (n : Nat) (h : l[n]? = some (t, a, ExS (.ref D) none a)) (C : _root_.L2.ExcC K D) (k : ClsV c cv) (e : PySem.W.kitOne K (.ref D) cv = some b) (z : Q (.bl b) H) : rIsX K [.ref a, c] H Q :=
  ⟨a, D, c, cv, b, rfl, S.get n h, C, k, e, z⟩
end
end G

set_option linter.all false
set_option maxRecDepth 100000
set_option maxHeartbeats 4000000
namespace G
open PySem PySem.Spec PyProof.Rows L2
def topS (i : Nat) : Stmt := PySem.Challenge.pw_farasked_k09_givers.main.body.getD i (.Pass ⟨0, 0, 0, 0⟩)
abbrev s_law_draw : Stmt := (topS 20)
theorem sc_law_draw : FnScope ["_law_hold", "_law_many", "_law_spot", "_law_cell", "_law_mark"] ["_law_hold", "_law_many"] (defScope s_law_draw) := ⟨rfl, rfl, rfl, by decide +kernel, rfl, by decide +kernel, by decide +kernel⟩

/-- hold: how many draws, the cells -/
structure Hold (n : Int) (cs : List Int) : Prop where
  ne : cs ≠ []
  len : cs.length ≤ 63
  nn : 0 ≤ n
def spDraw : Sp := fun vs H Q _ => ∃ (p q : Addr) (n m : Int) (cs : List Int), vs = [.ref p, .int m] ∧ H p = some (.lst [.int n, .ref q]) ∧ H q = some (.lst (cs.map V.int)) ∧ p ≠ q ∧ Hold n cs ∧ n < 2 ^ 40 ∧ 0 < m ∧ m < 2 ^ 200 ∧
  ∀ (r : Int) (cs' : List Int) (H' : Hp), 0 ≤ r → r < m → Hold (n + 1) cs' → H' p = some (.lst [.int (n + 1), .ref q]) → H' q = some (.lst (cs'.map V.int)) → (∀ b o, H b = some o → b ≠ p → b ≠ q → H' b = some o) → Q (.int r) H'
theorem c_draw {H0 H : Hp} {ft : List Addr} {l : List Cell} {t t' : Nat} {p q : Addr} {n m : Int} {cs : List Int} {Q : VK} {E : XK} (S : Sep H0 ft H l) (i j : Nat) (hi : l[i]? = some (t, p, .lst [.int n, .ref q])) (hj : l[j]? = some (t', q, .lst (cs.map V.int)))
    (h : Hold n cs) (hn : n < 2 ^ 40) (hm : 0 < m) (hm2 : m < 2 ^ 200)
    (k : ∀ (r : Int) (cs' : List Int) (H' : Hp), 0 ≤ r → r < m → Hold (n + 1) cs' → Sep H0 ft H' ((l.set i (t, p, .lst [.int (n + 1), .ref q])).set j (t', q, .lst (cs'.map V.int))) → Q (.int r) H')
    (d : i ≠ j := by decide) (ht : t = 1 ∨ t = 2 := by first | exact .inl rfl | exact .inr rfl) (ht' : t' = 1 ∨ t' = 2 := by first | exact .inl rfl | exact .inr rfl) : spDraw [.ref p, .int m] H Q E :=
  ⟨p, q, n, m, cs, rfl, S.get i hi, S.get j hj, S.ne i j hi hj d, h, hn, hm, hm2, fun r cs' H' h0 h1 hh e1 e2 F => k r cs' H' h0 h1 hh (S.chg2 i j hi hj d F e1 e2 ht ht')⟩
section
variable {P : Program} {w : World} {K : PySem.W.Frag} {mg : Str → Option Value} {base : Heap}
theorem ok_draw {f : Addr} {fd : FuncData} (F : Fun K "_law_draw" "_law_draw" s_law_draw f fd) (z_len : mg "len" = none) : FnOk P w K mg base CX0 1 f fd ["_law_hold", "_law_many"] spDraw := by
  refine F.ok sc_law_draw (fun vs H Q E h => ?_) (fun cdv A outer s H vs Q E hr h => ?_)
  · obtain ⟨p, q, n, m, cs, rfl, _⟩ := h
    rfl
  · obtain ⟨p, q, n, m, cs, rfl, hp, hq, npq, ⟨hcs, hl, hn0⟩, hn, hm0, hm, k⟩ := h
    have S := Sep.of2 hp hq npq
    have hc0 : 0 < cs.length := List.length_pos_iff.mpr hcs
    refine ⟨_, pss_cons (ps_set (i := 2) sc_law_draw.nd rfl (.inl rfl) (pe_op op_mod (pe_ix (ix_listK K) (pv 0) (pe_int) (fun _ _ => rfl)) (pe_callB (cl_lenK K) (by rfl) z_len PySem.boot_len (pa_cons (pe_ix (ix_listK K) (pv 0) (pe_int) (fun _ _ => rfl)) pa_nil))))
      (pss_cons (ps_set (i := 3) sc_law_draw.nd rfl (.inl rfl) (pe_ix (ix_listK K) (pe_ix (ix_listK K) (pv 0) (pe_int) (fun _ _ => rfl)) (pv 2) (fun _ _ => rfl)))
      (pss_cons (ps_augS (pv 0) (pe_int) get_list (pe_int) ip_add set_list)
      (pss_cons (ps_if (pt_cmpR op_ge (pv 3) (pe_int) (nomark _)) (pss_cons (ps_asg (pe_op op_fdivW (pv 3) (pv 1)) (pg_sub (pe_ix (ix_listK K) (pv 0) (pe_int) (fun _ _ => rfl)) (pv 2) set_list))
      (pss_one (ps_ret (pe_op op_mod (pv 3) (pv 1))))) (pss_nil))
      (pss_cons (ps_set (i := 4) sc_law_draw.nd rfl (.inl rfl) (pe_op op_mod (pe_op op_add (pe_op op_mod (pv 3) (pe_int)) (pe_op op_mul (pe_int) (pe_ix (ix_listK K) (pv 0) (pe_int) (fun _ _ => rfl)))) (pe_int)))
      (pss_cons (ps_set (i := 4) sc_law_draw.nd rfl (.inl rfl) (pe_op op_mod (pe_op op_mul (pe_op op_mod (pe_op op_pow (pv 4) (pe_int)) (pe_int)) (pe_int)) (pe_int)))
      (pss_one (ps_ret (pe_op op_mod (pe_op op_fdivW (pe_op op_mod (pe_op op_pow (pe_op op_add (pv 4) (pe_op op_mul (pe_op op_mod (pv 3) (pe_int)) (pe_ix (ix_listK K) (pv 0) (pe_int) (fun _ _ => rfl)))) (pe_int)) (pe_int)) (pe_int)) (pv 1))))))))), ?_⟩
    rw [show start ["_law_hold", "_law_many", "_law_spot", "_law_cell", "_law_mark"] [V.ref p, V.int m] = [some (V.ref p), some (V.int m), none, none, none] from rfl]
    try dsimp only [tMethS1, tMethKS1, WE, tSeq, tAsg, gName, tOp, tUn, tCB, tCons, tNil, tCall, tMethK1, tCallK1, tPar3, tRet, tRetN, tDrop, tTest, tB, tC, tNext, tAugS, tAug, sFld1, sFldAug1, tMeth1, tMake, tMakeK1, tSl, tPart, tNoPart, sDPut1, tDPop, tBM, tBM0, tPar, gSub, tChain, tNot, tNotV, tDG1, tDG2, tDNewT1, iKeys1, iEnum1, iList1, iTup1, iRng1, iRng2, List.set_cons_zero, List.set_cons_succ]
    refine x_var (by exact rfl) ?_
    refine x_ixF S 0 (by exact rfl) (by exact rfl) ?_
    refine x_var (by exact rfl) ?_
    refine x_ixF S 0 (by exact rfl) (by exact rfl) ?_
    refine x_lenI S 1 (by exact rfl) ?_
    refine x_I (by first | decide | (show (0 : Int) < _; omega)) ?_
    try dsimp only [tMethS1, tMethKS1, WE, tSeq, tAsg, gName, tOp, tUn, tCB, tCons, tNil, tCall, tMethK1, tCallK1, tPar3, tRet, tRetN, tDrop, tTest, tB, tC, tNext, tAugS, tAug, sFld1, sFldAug1, tMeth1, tMake, tMakeK1, tSl, tPart, tNoPart, sDPut1, tDPop, tBM, tBM0, tPar, gSub, tChain, tNot, tNotV, tDG1, tDG2, tDNewT1, iKeys1, iEnum1, iList1, iTup1, iRng1, iRng2, List.set_cons_zero, List.set_cons_succ]
    refine x_var (by exact rfl) ?_
    refine x_ixF S 0 (by exact rfl) (by exact rfl) ?_
    refine x_var (by exact rfl) ?_
    refine x_ixI S 1 (by exact rfl) (by first | omega | exact Int.emod_nonneg _ (by omega)) (by first | omega | exact Int.emod_lt_of_pos _ (by omega)) (fun v1 hv1 => ?_)
    try dsimp only [tMethS1, tMethKS1, WE, tSeq, tAsg, gName, tOp, tUn, tCB, tCons, tNil, tCall, tMethK1, tCallK1, tPar3, tRet, tRetN, tDrop, tTest, tB, tC, tNext, tAugS, tAug, sFld1, sFldAug1, tMeth1, tMake, tMakeK1, tSl, tPart, tNoPart, sDPut1, tDPop, tBM, tBM0, tPar, gSub, tChain, tNot, tNotV, tDG1, tDG2, tDNewT1, iKeys1, iEnum1, iList1, iTup1, iRng1, iRng2, List.set_cons_zero, List.set_cons_succ]
    refine x_var (by exact rfl) ?_
    refine x_ixF S 0 (by exact rfl) (by exact rfl) ?_
    refine x_ip ?_
    refine x_setL S 0 (by exact rfl) (by exact rfl) (fun H S => ?_)
    simp only [List.set_cons_zero, List.set_cons_succ] at S
    try dsimp only [tMethS1, tMethKS1, WE, tSeq, tAsg, gName, tOp, tUn, tCB, tCons, tNil, tCall, tMethK1, tCallK1, tPar3, tRet, tRetN, tDrop, tTest, tB, tC, tNext, tAugS, tAug, sFld1, sFldAug1, tMeth1, tMake, tMakeK1, tSl, tPart, tNoPart, sDPut1, tDPop, tBM, tBM0, tPar, gSub, tChain, tNot, tNotV, tDG1, tDG2, tDNewT1, iKeys1, iEnum1, iList1, iTup1, iRng1, iRng2, List.set_cons_zero, List.set_cons_succ]
    refine x_if ?_
    try dsimp only [tMethS1, tMethKS1, WE, tSeq, tAsg, gName, tOp, tUn, tCB, tCons, tNil, tCall, tMethK1, tCallK1, tPar3, tRet, tRetN, tDrop, tTest, tB, tC, tNext, tAugS, tAug, sFld1, sFldAug1, tMeth1, tMake, tMakeK1, tSl, tPart, tNoPart, sDPut1, tDPop, tBM, tBM0, tPar, gSub, tChain, tNot, tNotV, tDG1, tDG2, tDNewT1, iKeys1, iEnum1, iList1, iTup1, iRng1, iRng2, List.set_cons_zero, List.set_cons_succ]
    refine x_var (by exact rfl) ?_
    refine x_I0 ?_
    refine ⟨_, rfl, ?_⟩
    refine ited (fun c1 => ?_) (fun c1 => ?_)
    · try dsimp only [tMethS1, tMethKS1, WE, tSeq, tAsg, gName, tOp, tUn, tCB, tCons, tNil, tCall, tMethK1, tCallK1, tPar3, tRet, tRetN, tDrop, tTest, tB, tC, tNext, tAugS, tAug, sFld1, sFldAug1, tMeth1, tMake, tMakeK1, tSl, tPart, tNoPart, sDPut1, tDPop, tBM, tBM0, tPar, gSub, tChain, tNot, tNotV, tDG1, tDG2, tDNewT1, iKeys1, iEnum1, iList1, iTup1, iRng1, iRng2, List.set_cons_zero, List.set_cons_succ]
      refine x_var (by exact rfl) ?_
      refine x_var (by exact rfl) ?_
      refine x_I (by first | exact ⟨by decide, by decide⟩ | exact div_ok (by omega) (by omega)) ?_
      refine x_var (by exact rfl) ?_
      refine x_ixF S 0 (by exact rfl) (by exact rfl) ?_
      refine x_var (by exact rfl) ?_
      refine x_setI S 1 (by exact rfl) (by first | omega | exact Int.emod_nonneg _ (by omega)) (by first | omega | exact Int.emod_lt_of_pos _ (by omega)) (fun H S => ?_)
      simp only [List.set_cons_zero, List.set_cons_succ] at S
      try dsimp only [tMethS1, tMethKS1, WE, tSeq, tAsg, gName, tOp, tUn, tCB, tCons, tNil, tCall, tMethK1, tCallK1, tPar3, tRet, tRetN, tDrop, tTest, tB, tC, tNext, tAugS, tAug, sFld1, sFldAug1, tMeth1, tMake, tMakeK1, tSl, tPart, tNoPart, sDPut1, tDPop, tBM, tBM0, tPar, gSub, tChain, tNot, tNotV, tDG1, tDG2, tDNewT1, iKeys1, iEnum1, iList1, iTup1, iRng1, iRng2, List.set_cons_zero, List.set_cons_succ]
      refine x_var (by exact rfl) ?_
      refine x_var (by exact rfl) ?_
      refine x_I (by first | decide | (show (0 : Int) < _; omega)) ?_
      refine k _ _ _ ?_ ?_ ⟨?_, ?_, ?_⟩ (S.get 0 rfl) (S.get 1 rfl) S.out2
      · exact Int.emod_nonneg _ (by omega)
      · exact Int.emod_lt_of_pos _ (by omega)
      · first | exact hcs | (intro e; have := congrArg List.length e; rw [List.length_set] at this; exact hcs (List.length_eq_zero_iff.mp this))
      · first | exact hl | (rw [List.length_set]; exact hl)
      · omega
    · try dsimp only [tMethS1, tMethKS1, WE, tSeq, tAsg, gName, tOp, tUn, tCB, tCons, tNil, tCall, tMethK1, tCallK1, tPar3, tRet, tRetN, tDrop, tTest, tB, tC, tNext, tAugS, tAug, sFld1, sFldAug1, tMeth1, tMake, tMakeK1, tSl, tPart, tNoPart, sDPut1, tDPop, tBM, tBM0, tPar, gSub, tChain, tNot, tNotV, tDG1, tDG2, tDNewT1, iKeys1, iEnum1, iList1, iTup1, iRng1, iRng2, List.set_cons_zero, List.set_cons_succ]
      refine x_var (by exact rfl) ?_
      refine x_I (by first | decide | (show (0 : Int) < _; omega)) ?_
      refine x_var (by exact rfl) ?_
      refine x_ixF S 0 (by exact rfl) (by exact rfl) ?_
      refine x_I (by first | exact .inr ⟨by decide, by decide⟩ | exact .inl ⟨by decide, by decide⟩ | exact .inr ⟨by omega, by omega⟩ | exact .inl ⟨by omega, by omega⟩) ?_
      refine x_I0 ?_
      refine x_I (by first | decide | (show (0 : Int) < _; omega)) ?_
      try dsimp only [tMethS1, tMethKS1, WE, tSeq, tAsg, gName, tOp, tUn, tCB, tCons, tNil, tCall, tMethK1, tCallK1, tPar3, tRet, tRetN, tDrop, tTest, tB, tC, tNext, tAugS, tAug, sFld1, sFldAug1, tMeth1, tMake, tMakeK1, tSl, tPart, tNoPart, sDPut1, tDPop, tBM, tBM0, tPar, gSub, tChain, tNot, tNotV, tDG1, tDG2, tDNewT1, iKeys1, iEnum1, iList1, iTup1, iRng1, iRng2, List.set_cons_zero, List.set_cons_succ]
      refine x_var (by exact rfl) ?_
      refine x_I ⟨by decide, by decide, by first | assumption | omega⟩ ?_
      refine x_I (by first | decide | (show (0 : Int) < _; omega)) ?_
      refine x_I (by first | exact .inr ⟨by decide, by decide⟩ | exact .inl ⟨by decide, by decide⟩ | exact .inr ⟨by omega, by omega⟩ | exact .inl ⟨by omega, by omega⟩) ?_
      refine x_I (by first | decide | (show (0 : Int) < _; omega)) ?_
      try dsimp only [tMethS1, tMethKS1, WE, tSeq, tAsg, gName, tOp, tUn, tCB, tCons, tNil, tCall, tMethK1, tCallK1, tPar3, tRet, tRetN, tDrop, tTest, tB, tC, tNext, tAugS, tAug, sFld1, sFldAug1, tMeth1, tMake, tMakeK1, tSl, tPart, tNoPart, sDPut1, tDPop, tBM, tBM0, tPar, gSub, tChain, tNot, tNotV, tDG1, tDG2, tDNewT1, iKeys1, iEnum1, iList1, iTup1, iRng1, iRng2, List.set_cons_zero, List.set_cons_succ]
      have hb := mul_bd (a := v1 % 1000003) (b := n + 1) (A := 1000003) (B := 2 ^ 41) (Int.emod_nonneg _ (by decide)) (Int.emod_lt_of_pos _ (by decide)) (by omega) (by omega)
      refine x_var (by exact rfl) ?_
      refine x_var (by exact rfl) ?_
      refine x_I (by first | decide | (show (0 : Int) < _; omega)) ?_
      refine x_var (by exact rfl) ?_
      refine x_ixF S 0 (by exact rfl) (by exact rfl) ?_
      refine x_I (by first | exact .inr ⟨by decide, by decide⟩ | exact .inl ⟨by decide, by decide⟩ | exact .inr ⟨by omega, by omega⟩ | exact .inl ⟨by omega, by omega⟩) ?_
      refine x_I0 ?_
      refine x_I ⟨by decide, by decide, by first | assumption | omega⟩ ?_
      refine x_I (by first | decide | (show (0 : Int) < _; omega)) ?_
      refine x_I (by first | exact ⟨by decide, by decide⟩ | exact div_ok (by omega) (by omega)) ?_
      refine x_var (by exact rfl) ?_
      refine x_I (by first | decide | (show (0 : Int) < _; omega)) ?_
      refine k _ _ _ ?_ ?_ ⟨?_, ?_, ?_⟩ (S.get 0 rfl) (S.get 1 rfl) S.out2
      · exact Int.emod_nonneg _ (by omega)
      · exact Int.emod_lt_of_pos _ (by omega)
      · first | exact hcs | (intro e; have := congrArg List.length e; rw [List.length_set] at this; exact hcs (List.length_eq_zero_iff.mp this))
      · first | exact hl | (rw [List.length_set]; exact hl)
      · omega
end

def spValue : Sp := fun vs H Q _ => ∃ (p q : Addr) (n : Int) (cs : List Int), vs = [.ref p] ∧ H p = some (.lst [.int n, .ref q]) ∧ H q = some (.lst (cs.map V.int)) ∧ p ≠ q ∧ Hold n cs ∧ n < 2 ^ 39 ∧
  ∀ (r n' : Int) (cs' : List Int) (H' : Hp), n' ≤ n + 6 → Hold n' cs' → H' p = some (.lst [.int n', .ref q]) → H' q = some (.lst (cs'.map V.int)) → (∀ b o, H b = some o → b ≠ p → b ≠ q → H' b = some o) → Q (.int r) H'
theorem c_value {H0 H : Hp} {ft : List Addr} {l : List Cell} {t t' : Nat} {p q : Addr} {n : Int} {cs : List Int} {Q : VK} {E : XK} (S : Sep H0 ft H l) (i j : Nat) (hi : l[i]? = some (t, p, .lst [.int n, .ref q])) (hj : l[j]? = some (t', q, .lst (cs.map V.int)))
    (h : Hold n cs) (hn : n < 2 ^ 39) (k : ∀ (r n' : Int) (cs' : List Int) (H' : Hp), n' ≤ n + 6 → Hold n' cs' → Sep H0 ft H' ((l.set i (t, p, .lst [.int n', .ref q])).set j (t', q, .lst (cs'.map V.int))) → Q (.int r) H')
    (d : i ≠ j := by decide) (ht : t = 1 ∨ t = 2 := by first | exact .inl rfl | exact .inr rfl) (ht' : t' = 1 ∨ t' = 2 := by first | exact .inl rfl | exact .inr rfl) : spValue [.ref p] H Q E :=
  ⟨p, q, n, cs, rfl, S.get i hi, S.get j hj, S.ne i j hi hj d, h, hn, fun r n' cs' H' h1 hh e1 e2 F => k r n' cs' H' h1 hh (S.chg2 i j hi hj d F e1 e2 ht ht')⟩
def spWide : Sp := fun vs H Q _ => ∃ (p q : Addr) (n : Int) (cs : List Int), vs = [.ref p] ∧ H p = some (.lst [.int n, .ref q]) ∧ H q = some (.lst (cs.map V.int)) ∧ p ≠ q ∧ Hold n cs ∧ n < 2 ^ 39 ∧
  ∀ (r n' : Int) (cs' : List Int) (H' : Hp), 1 ≤ r → r ≤ 64 → n' ≤ n + 6 → Hold n' cs' → H' p = some (.lst [.int n', .ref q]) → H' q = some (.lst (cs'.map V.int)) → (∀ b o, H b = some o → b ≠ p → b ≠ q → H' b = some o) → Q (.int r) H'
theorem c_wide {H0 H : Hp} {ft : List Addr} {l : List Cell} {t t' : Nat} {p q : Addr} {n : Int} {cs : List Int} {Q : VK} {E : XK} (S : Sep H0 ft H l) (i j : Nat) (hi : l[i]? = some (t, p, .lst [.int n, .ref q])) (hj : l[j]? = some (t', q, .lst (cs.map V.int)))
    (h : Hold n cs) (hn : n < 2 ^ 39) (k : ∀ (r n' : Int) (cs' : List Int) (H' : Hp), 1 ≤ r → r ≤ 64 → n' ≤ n + 6 → Hold n' cs' → Sep H0 ft H' ((l.set i (t, p, .lst [.int n', .ref q])).set j (t', q, .lst (cs'.map V.int))) → Q (.int r) H')
    (d : i ≠ j := by decide) (ht : t = 1 ∨ t = 2 := by first | exact .inl rfl | exact .inr rfl) (ht' : t' = 1 ∨ t' = 2 := by first | exact .inl rfl | exact .inr rfl) : spWide [.ref p] H Q E :=
  ⟨p, q, n, cs, rfl, S.get i hi, S.get j hj, S.ne i j hi hj d, h, hn, fun r n' cs' H' h0 h9 h1 hh e1 e2 F => k r n' cs' H' h0 h9 h1 hh (S.chg2 i j hi hj d F e1 e2 ht ht')⟩
section
variable {P : Program} {w : World} {K : PySem.W.Frag} {mg : Str → Option Value} {base : Heap}
abbrev s_law_value : Stmt := (topS 23)
theorem sc_law_value : FnScope ["_law_hold", "_law_way", "_law_number", "_law_k"] ["_law_hold"] (defScope s_law_value) := ⟨rfl, rfl, rfl, by decide +kernel, rfl, by decide +kernel, by decide +kernel⟩
theorem ok_law_value {f : Addr} {fd : FuncData} (F : L2.Fun K "_law_value" "_law_value" s_law_value f fd) (cd : Cal P w K mg base CX0 1 "_law_draw" spDraw) (z_range : mg "range" = none) : FnOk P w K mg base CX0 2 f fd ["_law_hold"] spValue := by
  refine F.ok sc_law_value (fun vs H Q E h => ?_) (fun cdv A outer s H0 vs Q E hr h => ?_)
  · obtain ⟨p, q, n, cs, rfl, hp, hq, npq, hh, hn, k⟩ := h
    rfl
  · obtain ⟨p, q, n, cs, rfl, hp, hq, npq, hh, hn, k⟩ := h
    have hu := hu_of hr
    have S := Sep.of2 hp hq npq
    refine ⟨_, pss_cons (ps_set (i := 1) sc_law_value.nd rfl (.inl rfl) (pe_c cd hr (by decide) (by rfl) pass0 (pa_cons (pv 0) (pa_cons (pe_int) pa_nil))))
      (pss_cons (ps_if (pt_cmpR op_lt (pv 1) (pe_int) (nomark _)) (pss_one (ps_ret (pe_op op_mul (pe_c cd hr (by decide) (by rfl) pass0 (pa_cons (pv 0) (pa_cons (pe_int) pa_nil))) (pe_ix (ix_listK K) (pe_lst1 (pa_cons (pe_int) (pa_cons (pe_un un_neg (pe_int)) pa_nil))) (pv 1) (fun _ _ => rfl))))) (pss_nil))
      (pss_cons (ps_set (i := 2) sc_law_value.nd rfl (.inl rfl) (pe_int))
      (pss_cons (ps_for PassesOwn.never rfl (pi_range1 (by rfl) z_range (pa_cons (pe_int) pa_nil)) (pg_name (i := 3) sc_law_value.nd rfl (.inl rfl)) (pss_one (ps_set (i := 2) sc_law_value.nd rfl (.inl rfl) (pe_op op_add (pe_op op_mul (pv 2) (pe_int)) (pe_c cd hr (by decide) (by rfl) pass0 (pa_cons (pv 0) (pa_cons (pe_int) pa_nil)))))))
      (pss_one (ps_ret (pe_op op_mul (pv 2) (pe_ix (ix_listK K) (pe_lst1 (pa_cons (pe_int) (pa_cons (pe_un un_neg (pe_int)) pa_nil))) (pe_op op_sub (pv 1) (pe_int)) (fun _ _ => rfl)))))))), ?_⟩
    rw [show start ["_law_hold", "_law_way", "_law_number", "_law_k"] [V.ref p] = [some (V.ref p), none, none, none] from rfl]
    try dsimp only [tMethS1, tMethKS1, WE, tSeq, tAsg, gName, tOp, tUn, tCB, tCons, tNil, tCall, tMethK1, tCallK1, tPar3, tRet, tRetN, tDrop, tTest, tB, tC, tNext, tAugS, tAug, sFld1, sFldAug1, tMeth1, tMake, tMakeK1, tSl, tPart, tNoPart, sDPut1, tDPop, tBM, tBM0, tPar, gSub, tChain, tNot, tNotV, tDG1, tDG2, tDNewT1, iKeys1, iEnum1, iList1, iTup1, iRng1, iRng2, List.set_cons_zero, List.set_cons_succ]
    refine x_var (by exact rfl) ?_
    refine c_draw S 0 1 (by exact rfl) (by exact rfl) hh (by first | omega | decide | (simp only [len_insAt, List.length_map, List.length_append, List.length_cons, List.length_nil, List.length_take, List.length_drop] at *; omega)) (by first | omega | decide | (simp only [len_insAt, List.length_map, List.length_append, List.length_cons, List.length_nil, List.length_take, List.length_drop] at *; omega)) (by first | omega | decide | (simp only [len_insAt, List.length_map, List.length_append, List.length_cons, List.length_nil, List.length_take, List.length_drop] at *; omega)) (fun r1 cs1 H r1a r1b hh S => ?_)
    simp only [List.set_cons_zero, List.set_cons_succ] at S
    try dsimp only [tMethS1, tMethKS1, WE, tSeq, tAsg, gName, tOp, tUn, tCB, tCons, tNil, tCall, tMethK1, tCallK1, tPar3, tRet, tRetN, tDrop, tTest, tB, tC, tNext, tAugS, tAug, sFld1, sFldAug1, tMeth1, tMake, tMakeK1, tSl, tPart, tNoPart, sDPut1, tDPop, tBM, tBM0, tPar, gSub, tChain, tNot, tNotV, tDG1, tDG2, tDNewT1, iKeys1, iEnum1, iList1, iTup1, iRng1, iRng2, List.set_cons_zero, List.set_cons_succ]
    refine x_if ?_
    try dsimp only [tMethS1, tMethKS1, WE, tSeq, tAsg, gName, tOp, tUn, tCB, tCons, tNil, tCall, tMethK1, tCallK1, tPar3, tRet, tRetN, tDrop, tTest, tB, tC, tNext, tAugS, tAug, sFld1, sFldAug1, tMeth1, tMake, tMakeK1, tSl, tPart, tNoPart, sDPut1, tDPop, tBM, tBM0, tPar, gSub, tChain, tNot, tNotV, tDG1, tDG2, tDNewT1, iKeys1, iEnum1, iList1, iTup1, iRng1, iRng2, List.set_cons_zero, List.set_cons_succ]
    refine x_var (by exact rfl) ?_
    refine x_I0 ?_
    refine ⟨_, rfl, ?_⟩
    refine ited (fun c1 => ?_) (fun c1 => ?_)
    · try dsimp only [tMethS1, tMethKS1, WE, tSeq, tAsg, gName, tOp, tUn, tCB, tCons, tNil, tCall, tMethK1, tCallK1, tPar3, tRet, tRetN, tDrop, tTest, tB, tC, tNext, tAugS, tAug, sFld1, sFldAug1, tMeth1, tMake, tMakeK1, tSl, tPart, tNoPart, sDPut1, tDPop, tBM, tBM0, tPar, gSub, tChain, tNot, tNotV, tDG1, tDG2, tDNewT1, iKeys1, iEnum1, iList1, iTup1, iRng1, iRng2, List.set_cons_zero, List.set_cons_succ]
      refine x_var (by exact rfl) ?_
      refine c_draw S 0 1 (by exact rfl) (by exact rfl) hh (by first | omega | decide | (simp only [len_insAt, List.length_map, List.length_append, List.length_cons, List.length_nil, List.length_take, List.length_drop] at *; omega)) (by first | omega | decide | (simp only [len_insAt, List.length_map, List.length_append, List.length_cons, List.length_nil, List.length_take, List.length_drop] at *; omega)) (by first | omega | decide | (simp only [len_insAt, List.length_map, List.length_append, List.length_cons, List.length_nil, List.length_take, List.length_drop] at *; omega)) (fun r2 cs2 H r2a r2b hh S => ?_)
      simp only [List.set_cons_zero, List.set_cons_succ] at S
      refine x_U ?_
      refine x_lst S (by exact Nat.le_of_ble_eq_true rfl) (fun L1 H S => ?_)
      refine x_var (by exact rfl) ?_
      refine x_ixI (cs := [1, -1]) S 0 (by exact rfl) (by omega) (by first | (show (_ : Int) < 2; omega) | omega) (fun v1 hv1 => ?_)
      have hv1 := List.mem_of_getElem? hv1
      simp only [List.mem_cons, List.not_mem_nil, or_false] at hv1
      refine x_I (by first | exact .inr ⟨by decide, by decide⟩ | exact .inl ⟨by decide, by decide⟩ | exact .inr ⟨by omega, by omega⟩ | exact .inl ⟨by omega, by omega⟩) ?_
      exact k _ _ _ _ (by omega) hh (S.get 1 rfl) (S.get 2 rfl) S.out2
    · try dsimp only [tMethS1, tMethKS1, WE, tSeq, tAsg, gName, tOp, tUn, tCB, tCons, tNil, tCall, tMethK1, tCallK1, tPar3, tRet, tRetN, tDrop, tTest, tB, tC, tNext, tAugS, tAug, sFld1, sFldAug1, tMeth1, tMake, tMakeK1, tSl, tPart, tNoPart, sDPut1, tDPop, tBM, tBM0, tPar, gSub, tChain, tNot, tNotV, tDG1, tDG2, tDNewT1, iKeys1, iEnum1, iList1, iTup1, iRng1, iRng2, List.set_cons_zero, List.set_cons_succ]
      try dsimp only [tMethS1, tMethKS1, WE, tSeq, tAsg, gName, tOp, tUn, tCB, tCons, tNil, tCall, tMethK1, tCallK1, tPar3, tRet, tRetN, tDrop, tTest, tB, tC, tNext, tAugS, tAug, sFld1, sFldAug1, tMeth1, tMake, tMakeK1, tSl, tPart, tNoPart, sDPut1, tDPop, tBM, tBM0, tPar, gSub, tChain, tNot, tNotV, tDG1, tDG2, tDNewT1, iKeys1, iEnum1, iList1, iTup1, iRng1, iRng2, List.set_cons_zero, List.set_cons_succ]
      refine x_for ?_
      try dsimp only [tMethS1, tMethKS1, tOp, tUn, tCB, tCons, tNil, tCall, tMethK1, tCallK1, tC, tMeth1, tMake, tMakeK1, tSl, tPart, tNoPart, tDPop, tChain, tNotV, tBM, tBM0, tDG1, tDG2, tDNewT1, iKeys1, iEnum1, iList1, iTup1, iRng1, iRng2]
      refine ⟨_, rfl, by omega, by omega, ?_⟩
      refine forR (fun i σ H1 => ∃ (num n1 : Int) (cs1 : List Int) (o : Option V), σ = [some (.ref p), some (.int r1), some (.int num), o] ∧ n1 ≤ n + 1 + i ∧ Hold n1 cs1 ∧ Sep H0 [p, q] H1 [(1, p, .lst [.int n1, .ref q]), (1, q, .lst (cs1.map V.int))]) ?_ ?_ ?_
      · exact ⟨0, _, _, _, rfl, by omega, hh, S⟩
      · rintro i σ H hi ⟨num, n1, cs1, o, rfl, hn1, hh, S⟩
        try dsimp only [tMethS1, tMethKS1, WE, tSeq, tAsg, gName, tOp, tUn, tCB, tCons, tNil, tCall, tMethK1, tCallK1, tPar3, tRet, tRetN, tDrop, tTest, tB, tC, tNext, tAugS, tAug, sFld1, sFldAug1, tMeth1, tMake, tMakeK1, tSl, tPart, tNoPart, sDPut1, tDPop, tBM, tBM0, tPar, gSub, tChain, tNot, tNotV, tDG1, tDG2, tDNewT1, iKeys1, iEnum1, iList1, iTup1, iRng1, iRng2, List.set_cons_zero, List.set_cons_succ]
        try dsimp only [tMethS1, tMethKS1, WE, tSeq, tAsg, gName, tOp, tUn, tCB, tCons, tNil, tCall, tMethK1, tCallK1, tPar3, tRet, tRetN, tDrop, tTest, tB, tC, tNext, tAugS, tAug, sFld1, sFldAug1, tMeth1, tMake, tMakeK1, tSl, tPart, tNoPart, sDPut1, tDPop, tBM, tBM0, tPar, gSub, tChain, tNot, tNotV, tDG1, tDG2, tDNewT1, iKeys1, iEnum1, iList1, iTup1, iRng1, iRng2, List.set_cons_zero, List.set_cons_succ]
        refine x_var (by exact rfl) ?_
        refine x_I (by first | exact .inr ⟨by decide, by decide⟩ | exact .inl ⟨by decide, by decide⟩ | exact .inr ⟨by omega, by omega⟩ | exact .inl ⟨by omega, by omega⟩) ?_
        refine x_var (by exact rfl) ?_
        refine c_draw S 0 1 (by exact rfl) (by exact rfl) hh (by first | omega | decide | (simp only [len_insAt, List.length_map, List.length_append, List.length_cons, List.length_nil, List.length_take, List.length_drop] at *; omega)) (by first | omega | decide | (simp only [len_insAt, List.length_map, List.length_append, List.length_cons, List.length_nil, List.length_take, List.length_drop] at *; omega)) (by first | omega | decide | (simp only [len_insAt, List.length_map, List.length_append, List.length_cons, List.length_nil, List.length_take, List.length_drop] at *; omega)) (fun r3 cs3 H r3a r3b hh S => ?_)
        simp only [List.set_cons_zero, List.set_cons_succ] at S
        refine x_I0 ?_
        exact ⟨_, _, _, _, rfl, by omega, hh, S⟩
      · rintro σ H ⟨num, n1, cs1, o, rfl, hn1, hh, S⟩
        try dsimp only [tMethS1, tMethKS1, WE, tSeq, tAsg, gName, tOp, tUn, tCB, tCons, tNil, tCall, tMethK1, tCallK1, tPar3, tRet, tRetN, tDrop, tTest, tB, tC, tNext, tAugS, tAug, sFld1, sFldAug1, tMeth1, tMake, tMakeK1, tSl, tPart, tNoPart, sDPut1, tDPop, tBM, tBM0, tPar, gSub, tChain, tNot, tNotV, tDG1, tDG2, tDNewT1, iKeys1, iEnum1, iList1, iTup1, iRng1, iRng2, List.set_cons_zero, List.set_cons_succ]
        try dsimp only [tMethS1, tMethKS1, WE, tSeq, tAsg, gName, tOp, tUn, tCB, tCons, tNil, tCall, tMethK1, tCallK1, tPar3, tRet, tRetN, tDrop, tTest, tB, tC, tNext, tAugS, tAug, sFld1, sFldAug1, tMeth1, tMake, tMakeK1, tSl, tPart, tNoPart, sDPut1, tDPop, tBM, tBM0, tPar, gSub, tChain, tNot, tNotV, tDG1, tDG2, tDNewT1, iKeys1, iEnum1, iList1, iTup1, iRng1, iRng2, List.set_cons_zero, List.set_cons_succ]
        refine x_var (by exact rfl) ?_
        refine x_U ?_
        refine x_lst S (by exact Nat.le_of_ble_eq_true rfl) (fun L2 H S => ?_)
        refine x_var (by exact rfl) ?_
        refine x_I0 ?_
        refine x_ixI (cs := [1, -1]) S 0 (by exact rfl) (by omega) (by first | (show (_ : Int) < 2; omega) | omega) (fun v2 hv2 => ?_)
        have hv2 := List.mem_of_getElem? hv2
        simp only [List.mem_cons, List.not_mem_nil, or_false] at hv2
        refine x_I (by first | exact .inr ⟨by decide, by decide⟩ | exact .inl ⟨by decide, by decide⟩ | exact .inr ⟨by omega, by omega⟩ | exact .inl ⟨by omega, by omega⟩) ?_
        exact k _ _ _ _ (by omega) hh (S.get 1 rfl) (S.get 2 rfl) S.out2
abbrev s_law_wide : Stmt := (topS 24)
theorem sc_law_wide : FnScope ["_law_hold"] ["_law_hold"] (defScope s_law_wide) := ⟨rfl, rfl, rfl, by decide +kernel, rfl, by decide +kernel, by decide +kernel⟩
theorem ok_law_wide {f : Addr} {fd : FuncData} (F : L2.Fun K "_law_wide" "_law_wide" s_law_wide f fd) (cd : Cal P w K mg base CX0 1 "_law_draw" spDraw) : FnOk P w K mg base CX0 2 f fd ["_law_hold"] spWide := by
  refine F.ok sc_law_wide (fun vs H Q E h => ?_) (fun cdv A outer s H0 vs Q E hr h => ?_)
  · obtain ⟨p, q, n, cs, rfl, hp, hq, npq, hh, hn, k⟩ := h
    rfl
  · obtain ⟨p, q, n, cs, rfl, hp, hq, npq, hh, hn, k⟩ := h
    have hu := hu_of hr
    have S := Sep.of2 hp hq npq
    refine ⟨_, pss_one (ps_ret (pe_ix (ix_listK K) (pe_lst1 (pa_cons (pe_int) (pa_cons (pe_int) (pa_cons (pe_int) (pa_cons (pe_int) (pa_cons (pe_op op_add (pe_int) (pe_c cd hr (by decide) (by rfl) pass0 (pa_cons (pv 0) (pa_cons (pe_int) pa_nil)))) (pa_cons (pe_op op_add (pe_int) (pe_c cd hr (by decide) (by rfl) pass0 (pa_cons (pv 0) (pa_cons (pe_int) pa_nil)))) pa_nil))))))) (pe_c cd hr (by decide) (by rfl) pass0 (pa_cons (pv 0) (pa_cons (pe_int) pa_nil))) (fun _ _ => rfl))), ?_⟩
    rw [show start ["_law_hold"] [V.ref p] = [some (V.ref p)] from rfl]
    try dsimp only [tMethS1, tMethKS1, WE, tSeq, tAsg, gName, tOp, tUn, tCB, tCons, tNil, tCall, tMethK1, tCallK1, tPar3, tRet, tRetN, tDrop, tTest, tB, tC, tNext, tAugS, tAug, sFld1, sFldAug1, tMeth1, tMake, tMakeK1, tSl, tPart, tNoPart, sDPut1, tDPop, tBM, tBM0, tPar, gSub, tChain, tNot, tNotV, tDG1, tDG2, tDNewT1, iKeys1, iEnum1, iList1, iTup1, iRng1, iRng2, List.set_cons_zero, List.set_cons_succ]
    refine x_var (by exact rfl) ?_
    refine c_draw S 0 1 (by exact rfl) (by exact rfl) hh (by first | omega | decide | (simp only [len_insAt, List.length_map, List.length_append, List.length_cons, List.length_nil, List.length_take, List.length_drop] at *; omega)) (by first | omega | decide | (simp only [len_insAt, List.length_map, List.length_append, List.length_cons, List.length_nil, List.length_take, List.length_drop] at *; omega)) (by first | omega | decide | (simp only [len_insAt, List.length_map, List.length_append, List.length_cons, List.length_nil, List.length_take, List.length_drop] at *; omega)) (fun r1 cs1 H r1a r1b hh S => ?_)
    simp only [List.set_cons_zero, List.set_cons_succ] at S
    refine x_I0 ?_
    refine x_var (by exact rfl) ?_
    refine c_draw S 0 1 (by exact rfl) (by exact rfl) hh (by first | omega | decide | (simp only [len_insAt, List.length_map, List.length_append, List.length_cons, List.length_nil, List.length_take, List.length_drop] at *; omega)) (by first | omega | decide | (simp only [len_insAt, List.length_map, List.length_append, List.length_cons, List.length_nil, List.length_take, List.length_drop] at *; omega)) (by first | omega | decide | (simp only [len_insAt, List.length_map, List.length_append, List.length_cons, List.length_nil, List.length_take, List.length_drop] at *; omega)) (fun r2 cs2 H r2a r2b hh S => ?_)
    simp only [List.set_cons_zero, List.set_cons_succ] at S
    refine x_I0 ?_
    refine x_lst S (by exact Nat.le_of_ble_eq_true rfl) (fun L1 H S => ?_)
    refine x_var (by exact rfl) ?_
    refine c_draw S 1 2 (by exact rfl) (by exact rfl) hh (by first | omega | decide | (simp only [len_insAt, List.length_map, List.length_append, List.length_cons, List.length_nil, List.length_take, List.length_drop] at *; omega)) (by first | omega | decide | (simp only [len_insAt, List.length_map, List.length_append, List.length_cons, List.length_nil, List.length_take, List.length_drop] at *; omega)) (by first | omega | decide | (simp only [len_insAt, List.length_map, List.length_append, List.length_cons, List.length_nil, List.length_take, List.length_drop] at *; omega)) (fun r3 cs3 H r3a r3b hh S => ?_)
    simp only [List.set_cons_zero, List.set_cons_succ] at S
    refine x_ixI (cs := [4, 1, 2, 64, 1 + r1, 1 + r2]) S 0 (by exact rfl) (by omega) (by first | (show (_ : Int) < 6; omega) | omega) (fun v1 hv1 => ?_)
    have hv1 := List.mem_of_getElem? hv1
    simp only [List.mem_cons, List.not_mem_nil, or_false] at hv1
    exact k _ _ _ _ (by omega) (by omega) (by omega) hh (S.get 1 rfl) (S.get 2 rfl) S.out2
end

def spIs : Sp := fun vs H Q _ => ∃ a b : Int, vs = [.int a, .int b] ∧ Q (.bl (decide (V.int a = V.int b))) H
theorem c_is {H : Hp} {a b : Int} {Q : VK} {E : XK} (q : Q (.bl (decide (V.int a = V.int b))) H) : spIs [.int a, .int b] H Q E := ⟨a, b, rfl, q⟩
section
variable {P : Program} {w : World} {K : PySem.W.Frag} {mg : Str → Option Value} {base : Heap}
abbrev s_law_is : Stmt := (topS 21)
theorem sc_law_is : FnScope ["_law_found", "_law_due"] ["_law_found", "_law_due"] (defScope s_law_is) := ⟨rfl, rfl, rfl, by decide +kernel, rfl, by decide +kernel, by decide +kernel⟩
theorem ok_law_is {f : Addr} {fd : FuncData} (F : L2.Fun K "_law_is" "_law_is" s_law_is f fd) (z_isinstance : mg "isinstance" = none) (z_int : mg "int" = none) (z_bool : mg "bool" = none) : FnOk P w K mg base CX0 1 f fd ["_law_found", "_law_due"] spIs := by
  refine F.ok sc_law_is (fun vs H Q E h => ?_) (fun cdv A outer s H0 vs Q E hr h => ?_)
  · obtain ⟨a, b, rfl, k⟩ := h
    rfl
  · obtain ⟨a, b, rfl, k⟩ := h
    have hu := hu_of hr

    refine ⟨_, pss_one (ps_ret (pe_and (pe_callB (cl_isiK K) (by rfl) z_isinstance (by decide +kernel) (pa_cons (pv 0) (pa_cons (pe_bltn (v := .ty "int") (by rfl) z_int (by decide +kernel) rfl) pa_nil))) (pe_and (pe_not (pe_callB (cl_isiK K) (by rfl) z_isinstance (by decide +kernel) (pa_cons (pv 0) (pa_cons (pe_bltn (v := .ty "bool") (by rfl) z_bool (by decide +kernel) rfl) pa_nil)))) (pe_one (pe_cmpR op_eq (pv 0) (pv 1) (nomark _)))))), ?_⟩
    rw [show start ["_law_found", "_law_due"] [V.int a, V.int b] = [some (V.int a), some (V.int b)] from rfl]
    try dsimp only [tMethS1, tMethKS1, WE, tSeq, tAsg, gName, tOp, tUn, tCB, tCons, tNil, tCall, tMethK1, tCallK1, tPar3, tRet, tRetN, tDrop, tTest, tB, tC, tNext, tAugS, tAug, sFld1, sFldAug1, tMeth1, tMake, tMakeK1, tSl, tPart, tNoPart, sDPut1, tDPop, tBM, tBM0, tPar, gSub, tChain, tNot, tNotV, tDG1, tDG2, tDNewT1, iKeys1, iEnum1, iList1, iTup1, iRng1, iRng2, List.set_cons_zero, List.set_cons_succ]
    refine x_andV ?_
    try dsimp only [tMethS1, tMethKS1, WE, tSeq, tAsg, gName, tOp, tUn, tCB, tCons, tNil, tCall, tMethK1, tCallK1, tPar3, tRet, tRetN, tDrop, tTest, tB, tC, tNext, tAugS, tAug, sFld1, sFldAug1, tMeth1, tMake, tMakeK1, tSl, tPart, tNoPart, sDPut1, tDPop, tBM, tBM0, tPar, gSub, tChain, tNot, tNotV, tDG1, tDG2, tDNewT1, iKeys1, iEnum1, iList1, iTup1, iRng1, iRng2, List.set_cons_zero, List.set_cons_succ]
    refine x_var (by exact rfl) ?_
    refine x_isi ty_int (by decide +kernel : kitB "int" "int" = some true) ?_
    refine ⟨_, rfl, ?_⟩
    refine iteT ?_
    refine x_andV ?_
    try dsimp only [tMethS1, tMethKS1, WE, tSeq, tAsg, gName, tOp, tUn, tCB, tCons, tNil, tCall, tMethK1, tCallK1, tPar3, tRet, tRetN, tDrop, tTest, tB, tC, tNext, tAugS, tAug, sFld1, sFldAug1, tMeth1, tMake, tMakeK1, tSl, tPart, tNoPart, sDPut1, tDPop, tBM, tBM0, tPar, gSub, tChain, tNot, tNotV, tDG1, tDG2, tDNewT1, iKeys1, iEnum1, iList1, iTup1, iRng1, iRng2, List.set_cons_zero, List.set_cons_succ]
    refine x_var (by exact rfl) ?_
    refine x_isi ty_int (by decide +kernel : kitB "int" "bool" = some false) ?_
    refine ⟨_, rfl, ?_⟩
    refine ⟨_, rfl, ?_⟩
    refine iteT ?_
    refine x_var (by exact rfl) ?_
    refine x_var (by exact rfl) ?_
    refine x_eq ?_
    exact k
end

def spTruth : Sp := fun vs H Q _ => ∃ a b : Bool, vs = [.bl a, .bl b] ∧ Q (.bl (decide (V.bl a = V.bl b))) H
theorem c_truth {H : Hp} {a b : Bool} {Q : VK} {E : XK} (q : Q (.bl (decide (V.bl a = V.bl b))) H) : spTruth [.bl a, .bl b] H Q E := ⟨a, b, rfl, q⟩
section
variable {P : Program} {w : World} {K : PySem.W.Frag} {mg : Str → Option Value} {base : Heap}
abbrev s_law_truth : Stmt := (topS 22)
theorem sc_law_truth : FnScope ["_law_found", "_law_due"] ["_law_found", "_law_due"] (defScope s_law_truth) := ⟨rfl, rfl, rfl, by decide +kernel, rfl, by decide +kernel, by decide +kernel⟩
theorem ok_law_truth {f : Addr} {fd : FuncData} (F : L2.Fun K "_law_truth" "_law_truth" s_law_truth f fd) (z_isinstance : mg "isinstance" = none) (z_bool : mg "bool" = none) : FnOk P w K mg base CX0 1 f fd ["_law_found", "_law_due"] spTruth := by
  refine F.ok sc_law_truth (fun vs H Q E h => ?_) (fun cdv A outer s H0 vs Q E hr h => ?_)
  · obtain ⟨a, b, rfl, k⟩ := h
    rfl
  · obtain ⟨a, b, rfl, k⟩ := h
    have hu := hu_of hr

    refine ⟨_, pss_one (ps_ret (pe_and (pe_callB (cl_isiK K) (by rfl) z_isinstance (by decide +kernel) (pa_cons (pv 0) (pa_cons (pe_bltn (v := .ty "bool") (by rfl) z_bool (by decide +kernel) rfl) pa_nil))) (pe_one (pe_cmpR op_eq (pv 0) (pv 1) (nomark _))))), ?_⟩
    rw [show start ["_law_found", "_law_due"] [V.bl a, V.bl b] = [some (V.bl a), some (V.bl b)] from rfl]
    try dsimp only [tMethS1, tMethKS1, WE, tSeq, tAsg, gName, tOp, tUn, tCB, tCons, tNil, tCall, tMethK1, tCallK1, tPar3, tRet, tRetN, tDrop, tTest, tB, tC, tNext, tAugS, tAug, sFld1, sFldAug1, tMeth1, tMake, tMakeK1, tSl, tPart, tNoPart, sDPut1, tDPop, tBM, tBM0, tPar, gSub, tChain, tNot, tNotV, tDG1, tDG2, tDNewT1, iKeys1, iEnum1, iList1, iTup1, iRng1, iRng2, List.set_cons_zero, List.set_cons_succ]
    refine x_andV ?_
    try dsimp only [tMethS1, tMethKS1, WE, tSeq, tAsg, gName, tOp, tUn, tCB, tCons, tNil, tCall, tMethK1, tCallK1, tPar3, tRet, tRetN, tDrop, tTest, tB, tC, tNext, tAugS, tAug, sFld1, sFldAug1, tMeth1, tMake, tMakeK1, tSl, tPart, tNoPart, sDPut1, tDPop, tBM, tBM0, tPar, gSub, tChain, tNot, tNotV, tDG1, tDG2, tDNewT1, iKeys1, iEnum1, iList1, iTup1, iRng1, iRng2, List.set_cons_zero, List.set_cons_succ]
    refine x_var (by exact rfl) ?_
    refine x_isi ty_bl (by decide +kernel : kitB "bool" "bool" = some true) ?_
    refine ⟨_, rfl, ?_⟩
    refine iteT ?_
    refine x_var (by exact rfl) ?_
    refine x_var (by exact rfl) ?_
    refine x_eq ?_
    exact k
end
end G

set_option linter.all false
set_option maxRecDepth 100000
set_option maxHeartbeats 4000000
namespace G
open PySem PySem.Spec PyProof.Rows L2
/-! ### Giver -/
def F_Giver (b : Int) (h : Int) (pl : Addr) (c : Bool) : List (Str × V) := [(("below" : Str), V.int b), (("behind" : Str), V.int h), (("pieces" : Str), V.ref pl), (("closed" : Str), V.bl c)]
theorem lk_Giver_below {b : Int} {h : Int} {pl : Addr} {c : Bool} : (F_Giver b h pl c).lookup ("below" : Str) = some (V.int b) := by kernel_rfl
theorem lk_Giver_behind {b : Int} {h : Int} {pl : Addr} {c : Bool} : (F_Giver b h pl c).lookup ("behind" : Str) = some (V.int h) := by kernel_rfl
theorem lk_Giver_pieces {b : Int} {h : Int} {pl : Addr} {c : Bool} : (F_Giver b h pl c).lookup ("pieces" : Str) = some (V.ref pl) := by kernel_rfl
theorem lk_Giver_closed {b : Int} {h : Int} {pl : Addr} {c : Bool} : (F_Giver b h pl c).lookup ("closed" : Str) = some (V.bl c) := by kernel_rfl
theorem nk_Giver_put {b : Int} {h : Int} {pl : Addr} {c : Bool} : (F_Giver b h pl c).lookup ("put" : Str) = none := by kernel_rfl
theorem nk_Giver_has_room {b : Int} {h : Int} {pl : Addr} {c : Bool} : (F_Giver b h pl c).lookup ("has_room" : Str) = none := by kernel_rfl
theorem nk_Giver_shut {b : Int} {h : Int} {pl : Addr} {c : Bool} : (F_Giver b h pl c).lookup ("shut" : Str) = none := by kernel_rfl
theorem nk_Giver_heard {b : Int} {h : Int} {pl : Addr} {c : Bool} : (F_Giver b h pl c).lookup ("heard" : Str) = none := by kernel_rfl
theorem nk_Giver_wanted {b : Int} {h : Int} {pl : Addr} {c : Bool} : (F_Giver b h pl c).lookup ("wanted" : Str) = none := by kernel_rfl
theorem nk_Giver_many {b : Int} {h : Int} {pl : Addr} {c : Bool} : (F_Giver b h pl c).lookup ("many" : Str) = none := by kernel_rfl
theorem nk_Giver_is_shut {b : Int} {h : Int} {pl : Addr} {c : Bool} : (F_Giver b h pl c).lookup ("is_shut" : Str) = none := by kernel_rfl
theorem pt_Giver_below {b : Int} {h : Int} {pl : Addr} {c : Bool} {z9 : Int} : putF ("below" : Str) (V.int z9) (F_Giver b h pl c) = F_Giver z9 h pl c := by kernel_rfl
theorem pt_Giver_behind {b : Int} {h : Int} {pl : Addr} {c : Bool} {z9 : Int} : putF ("behind" : Str) (V.int z9) (F_Giver b h pl c) = F_Giver b z9 pl c := by kernel_rfl
theorem pt_Giver_pieces {b : Int} {h : Int} {pl : Addr} {c : Bool} {z9 : Addr} : putF ("pieces" : Str) (V.ref z9) (F_Giver b h pl c) = F_Giver b h z9 c := by kernel_rfl
theorem pt_Giver_closed {b : Int} {h : Int} {pl : Addr} {c : Bool} {z9 : Bool} : putF ("closed" : Str) (V.bl z9) (F_Giver b h pl c) = F_Giver b h pl z9 := by kernel_rfl
theorem pi_Giver_1 {z9 : V} : putF ("below" : Str) z9 [] = [(("below" : Str), z9)] := by kernel_rfl
theorem pi_Giver_2 {y0 : V} {z9 : V} : putF ("behind" : Str) z9 [(("below" : Str), y0)] = [(("below" : Str), y0), (("behind" : Str), z9)] := by kernel_rfl
theorem pi_Giver_3 {y0 : V} {y1 : V} {z9 : V} : putF ("pieces" : Str) z9 [(("below" : Str), y0), (("behind" : Str), y1)] = [(("below" : Str), y0), (("behind" : Str), y1), (("pieces" : Str), z9)] := by kernel_rfl
theorem pi_Giver_4 {b : Int} {h : Int} {pl : Addr} {c : Bool} : putF ("closed" : Str) (V.bl c) [(("below" : Str), V.int b), (("behind" : Str), V.int h), (("pieces" : Str), V.ref pl)] = F_Giver b h pl c := by kernel_rfl
structure GvCls (K : PySem.W.Frag) (C : Addr) : Prop where
  c_Giver : Cls K C
  na_Giver_below : NoAttr K C "below"
  na_Giver_behind : NoAttr K C "behind"
  na_Giver_pieces : NoAttr K C "pieces"
  na_Giver_closed : NoAttr K C "closed"

def spGvInit (C : Addr) : Sp := fun vs H Q _ => ∃ (p dx : Addr) (w : Int), vs = [.ref p, .int w] ∧ H p = some (.ins C dx []) ∧ ∀ (l : Addr) (H' : Hp), H l = none → H' p = some (.ins C dx (F_Giver w 0 l false)) → H' l = some (.lst []) → (∀ b o, H b = some o → b ≠ p → H' b = some o) → Q .non H'
theorem c_mkGiver {C : Addr} {w : Int} {H0 H : Hp} {ft : List Addr} {l : List Cell} {Q : VK} {E : XK} (S : Sep H0 ft H l) (k : ∀ x dx d H', Sep H0 ft H' ((2, d, .lst []) :: (2, x, .ins C dx (F_Giver w 0 d false)) :: l) → Q (.ref x) H') :
    rMkK C 0 1 (spGvInit C) (fun vs zs => vs ++ zs) E [] [V.int w] H Q := by
  refine ⟨rfl, rfl, fun x dx hx hd n => ⟨x, dx, w, rfl, upd_same, fun d H' nd e1 e2 F => ⟨rfl, ?_⟩⟩⟩
  have S1 := S.made (C := C) hx hd n
  have S2 := S1.chg1 0 rfl F e1
  exact k x dx d H' (S1.got S2 rfl nd e2)
def spMany (C : Addr) : Sp := fun vs H Q _ => ∃ (p dx pl : Addr) (b h : Int) (c : Bool) (xs : List V), vs = [.ref p] ∧ H p = some (.ins C dx (F_Giver b h pl c)) ∧ H pl = some (.lst xs) ∧ Q (.int (h + xs.length)) H
theorem c_many {C : Addr} {H0 H : Hp} {ft : List Addr} {l : List Cell} {t1 t2 : Nat} {p dx pl : Addr} {b h : Int} {c : Bool} {xs : List V} {Q : VK} {E : XK} (S : Sep H0 ft H l) (n m : Nat) (e1 : l[n]? = some (t1, p, .ins C dx (F_Giver b h pl c))) (e2 : l[m]? = some (t2, pl, .lst xs))
    (k : Q (.int (h + xs.length)) H) : spMany C [.ref p] H Q E := ⟨p, dx, pl, b, h, c, xs, rfl, S.get n e1, S.get m e2, k⟩
def spHeard (C : Addr) : Sp := fun vs H Q _ => ∃ (p dx pl : Addr) (b h g r : Int) (c : Bool) (xs : List V), vs = [.ref p, .int g, .int r] ∧ H p = some (.ins C dx (F_Giver b h pl c)) ∧ H pl = some (.lst xs) ∧
  ∀ (pl' : Addr) (H' : Hp), H pl' = none → H' p = some (.ins C dx (F_Giver (max b r) (h + max (g - h) 0) pl' c)) → H' pl' = some (.lst (xs.drop (g - h).toNat)) → (∀ b o, H b = some o → b ≠ p → H' b = some o) → Q .non H'
theorem c_heard {C : Addr} {H0 H : Hp} {ft : List Addr} {l : List Cell} {t1 t2 : Nat} {p dx pl : Addr} {b h g r : Int} {c : Bool} {xs : List V} {Q : VK} {E : XK} (S : Sep H0 ft H l) (n m : Nat) (e1 : l[n]? = some (t1, p, .ins C dx (F_Giver b h pl c))) (e2 : l[m]? = some (t2, pl, .lst xs))
    (k : ∀ pl' H', Sep H0 ft H' ((2, pl', .lst (xs.drop (g - h).toNat)) :: l.set n (t1, p, .ins C dx (F_Giver (max b r) (h + max (g - h) 0) pl' c))) → Q .non H') (ht : t1 = 1 ∨ t1 = 2 := by first | exact .inl rfl | exact .inr rfl) : spHeard C [.ref p, .int g, .int r] H Q E :=
  ⟨p, dx, pl, b, h, g, r, c, xs, rfl, S.get n e1, S.get m e2, fun pl' H' hn e1' e2' F => k pl' H' (S.got (S.chg1 n e1 F e1' ht) (map_set e1) hn e2')⟩

/-- the things of vs are pairs of a place, from h on, and a thing of xs, told by the cells of L -/
def WIn (L : List Cell) (h : Int) (xs vs : List V) : Prop := vs.length = xs.length ∧ ∀ (i : Nat) (v : V), vs[i]? = some v → ∃ (a : Addr) (x : V), v = .ref a ∧ xs[i]? = some x ∧ (2, a, HO.tup [.int (h + i), x]) ∈ L
def spWanted (C : Addr) : Sp := fun vs H Q _ => ∃ (p dx pl : Addr) (b h : Int) (c : Bool) (xs : List V), vs = [.ref p] ∧ H p = some (.ins C dx (F_Giver b h pl c)) ∧ H pl = some (.lst xs) ∧ xs.length ≤ 9000 ∧
  ∀ (r : Addr) (ws : List V) (L : List Cell) (H' : Hp), (∀ c ∈ L, c.1 = 2) → WIn L h xs ws → Sep H [] H' ((2, r, .lst ws) :: L) → Q (.ref r) H'
def spIsShut (C : Addr) : Sp := fun vs H Q _ => ∃ (p dx pl : Addr) (b h : Int) (c : Bool), vs = [.ref p] ∧ H p = some (.ins C dx (F_Giver b h pl c)) ∧ Q (.bl c) H
theorem c_isshut {C : Addr} {H0 H : Hp} {ft : List Addr} {l : List Cell} {t1 : Nat} {p dx pl : Addr} {b h : Int} {c : Bool} {Q : VK} {E : XK} (S : Sep H0 ft H l) (n : Nat) (e1 : l[n]? = some (t1, p, .ins C dx (F_Giver b h pl c))) (k : Q (.bl c) H) : spIsShut C [.ref p] H Q E := ⟨p, dx, pl, b, h, c, rfl, S.get n e1, k⟩
section
variable {P : Program} {w : World} {K : PySem.W.Frag} {mg : Str → Option Value} {base : Heap}
abbrev s_Giver__init : Stmt := (inClass (topS 18) 0)
theorem sc_Giver__init : FnScope ["self", "window"] ["self", "window"] (defScope s_Giver__init) := ⟨rfl, rfl, rfl, by decide +kernel, rfl, by decide +kernel, by decide +kernel⟩
theorem ok_Giver__init {f : Addr} {fd : FuncData} {C : Addr} (F : L2.Fun K "__init__" "Giver.__init__" s_Giver__init f fd) (T : GvCls K C) : FnOk P w K mg base CX0 1 f fd ["self", "window"] (spGvInit C) := by
  refine F.ok sc_Giver__init (fun vs H Q E h => ?_) (fun cdv A outer s H0 vs Q E hr h => ?_)
  · obtain ⟨p, dx, w, rfl, hp, k⟩ := h
    rfl
  · obtain ⟨p, dx, w, rfl, hp, k⟩ := h
    have hu := hu_of hr
    have S := Sep.of1 hp
    refine ⟨_, pss_cons (ps_fld1 (pv 0) (pv 1) rfl)
      (pss_cons (ps_fld1 (pv 0) (pe_int) rfl)
      (pss_cons (ps_fld1 (pv 0) (pe_lst1 pa_nil) rfl)
      (pss_one (ps_fld1 (pv 0) (pe_bl) rfl)))), ?_⟩
    rw [show start ["self", "window"] [V.ref p, V.int w] = [some (V.ref p), some (V.int w)] from rfl]
    try dsimp only [tMethS1, tMethKS1, WE, tSeq, tAsg, gName, tOp, tUn, tCB, tCons, tNil, tCall, tMethK1, tCallK1, tPar3, tRet, tRetN, tDrop, tTest, tB, tC, tNext, tAugS, tAug, sFld1, sFldAug1, tMeth1, tMake, tMakeK1, tSl, tPart, tNoPart, sDPut1, tDPop, tBM, tBM0, tPar, gSub, tChain, tNot, tNotV, tDG1, tDG2, tDNewT1, iKeys1, iEnum1, iList1, iTup1, iRng1, iRng2, List.set_cons_zero, List.set_cons_succ]
    refine x_var (by exact rfl) ?_
    refine x_var (by exact rfl) ?_
    refine x_sfld S 0 (by exact rfl) T.c_Giver T.na_Giver_below pi_Giver_1 (by exact Nat.le_of_ble_eq_true rfl) (fun H S => ?_)
    simp only [List.set_cons_zero, List.set_cons_succ] at S
    try dsimp only [tMethS1, tMethKS1, WE, tSeq, tAsg, gName, tOp, tUn, tCB, tCons, tNil, tCall, tMethK1, tCallK1, tPar3, tRet, tRetN, tDrop, tTest, tB, tC, tNext, tAugS, tAug, sFld1, sFldAug1, tMeth1, tMake, tMakeK1, tSl, tPart, tNoPart, sDPut1, tDPop, tBM, tBM0, tPar, gSub, tChain, tNot, tNotV, tDG1, tDG2, tDNewT1, iKeys1, iEnum1, iList1, iTup1, iRng1, iRng2, List.set_cons_zero, List.set_cons_succ]
    refine x_var (by exact rfl) ?_
    refine x_sfld S 0 (by exact rfl) T.c_Giver T.na_Giver_behind pi_Giver_2 (by exact Nat.le_of_ble_eq_true rfl) (fun H S => ?_)
    simp only [List.set_cons_zero, List.set_cons_succ] at S
    try dsimp only [tMethS1, tMethKS1, WE, tSeq, tAsg, gName, tOp, tUn, tCB, tCons, tNil, tCall, tMethK1, tCallK1, tPar3, tRet, tRetN, tDrop, tTest, tB, tC, tNext, tAugS, tAug, sFld1, sFldAug1, tMeth1, tMake, tMakeK1, tSl, tPart, tNoPart, sDPut1, tDPop, tBM, tBM0, tPar, gSub, tChain, tNot, tNotV, tDG1, tDG2, tDNewT1, iKeys1, iEnum1, iList1, iTup1, iRng1, iRng2, List.set_cons_zero, List.set_cons_succ]
    refine x_lst S (by exact Nat.le_of_ble_eq_true rfl) (fun L1 H S => ?_)
    refine x_var (by exact rfl) ?_
    refine x_sfld S 1 (by exact rfl) T.c_Giver T.na_Giver_pieces pi_Giver_3 (by exact Nat.le_of_ble_eq_true rfl) (fun H S => ?_)
    simp only [List.set_cons_zero, List.set_cons_succ] at S
    try dsimp only [tMethS1, tMethKS1, WE, tSeq, tAsg, gName, tOp, tUn, tCB, tCons, tNil, tCall, tMethK1, tCallK1, tPar3, tRet, tRetN, tDrop, tTest, tB, tC, tNext, tAugS, tAug, sFld1, sFldAug1, tMeth1, tMake, tMakeK1, tSl, tPart, tNoPart, sDPut1, tDPop, tBM, tBM0, tPar, gSub, tChain, tNot, tNotV, tDG1, tDG2, tDNewT1, iKeys1, iEnum1, iList1, iTup1, iRng1, iRng2, List.set_cons_zero, List.set_cons_succ]
    refine x_var (by exact rfl) ?_
    refine x_sfld S 1 (by exact rfl) T.c_Giver T.na_Giver_closed pi_Giver_4 (by exact Nat.le_of_ble_eq_true rfl) (fun H S => ?_)
    simp only [List.set_cons_zero, List.set_cons_succ] at S
    exact k _ _ (S.new_none 0 rfl) (S.get 1 rfl) (S.get 0 rfl) S.out1
abbrev s_Giver_many : Stmt := (inClass (topS 18) 6)
theorem sc_Giver_many : FnScope ["self"] ["self"] (defScope s_Giver_many) := ⟨rfl, rfl, rfl, by decide +kernel, rfl, by decide +kernel, by decide +kernel⟩
theorem ok_Giver_many {f : Addr} {fd : FuncData} {C : Addr} (F : L2.Fun K "many" "Giver.many" s_Giver_many f fd) (T : GvCls K C) (z_len : mg "len" = none) : FnOk P w K mg base CX0 1 f fd ["self"] (spMany C) := by
  refine F.ok sc_Giver_many (fun vs H Q E h => ?_) (fun cdv A outer s H0 vs Q E hr h => ?_)
  · obtain ⟨p, dx, pl, b, h, c, xs, rfl, hp, hd, k⟩ := h
    rfl
  · obtain ⟨p, dx, pl, b, h, c, xs, rfl, hp, hd, k⟩ := h
    have hu := hu_of hr
    have S : Sep H0 [] H0 [(0, p, .ins C dx (F_Giver b h pl c)), (0, pl, .lst xs)] := (Sep.of0.add 0 hd (fun _ z => nomatch z) (fun z => by cases z) (fun z => by cases z)).add 0 hp (fun c hc z => by rw [List.mem_singleton.mp hc] at z; exact ne_of hd hp (by intro z; cases z) z) (fun z => by cases z) (fun z => by cases z)
    refine ⟨_, pss_one (ps_ret (pe_op op_add (pe_fldK K (pv 0)) (pe_callB (cl_lenK K) (by rfl) z_len PySem.boot_len (pa_cons (pe_fldK K (pv 0)) pa_nil)))), ?_⟩
    rw [show start ["self"] [V.ref p] = [some (V.ref p)] from rfl]
    try dsimp only [tMethS1, tMethKS1, WE, tSeq, tAsg, gName, tOp, tUn, tCB, tCons, tNil, tCall, tMethK1, tCallK1, tPar3, tRet, tRetN, tDrop, tTest, tB, tC, tNext, tAugS, tAug, sFld1, sFldAug1, tMeth1, tMake, tMakeK1, tSl, tPart, tNoPart, sDPut1, tDPop, tBM, tBM0, tPar, gSub, tChain, tNot, tNotV, tDG1, tDG2, tDNewT1, iKeys1, iEnum1, iList1, iTup1, iRng1, iRng2, List.set_cons_zero, List.set_cons_succ]
    refine x_var (by exact rfl) ?_
    refine x_fld S 0 (by exact rfl) T.c_Giver T.na_Giver_behind lk_Giver_behind ?_
    refine x_var (by exact rfl) ?_
    refine x_fld S 0 (by exact rfl) T.c_Giver T.na_Giver_pieces lk_Giver_pieces ?_
    refine x_len S 1 (by exact rfl) ?_
    refine x_I0 ?_
    exact k
abbrev s_Giver_heard : Stmt := (inClass (topS 18) 4)
theorem sc_Giver_heard : FnScope ["self", "got", "room", "less"] ["self", "got", "room"] (defScope s_Giver_heard) := ⟨rfl, rfl, rfl, by decide +kernel, rfl, by decide +kernel, by decide +kernel⟩
theorem ok_Giver_heard {f : Addr} {fd : FuncData} {C : Addr} (F : L2.Fun K "heard" "Giver.heard" s_Giver_heard f fd) (T : GvCls K C) (z_max : mg "max" = none) : FnOk P w K mg base CX0 1 f fd ["self", "got", "room"] (spHeard C) := by
  refine F.ok sc_Giver_heard (fun vs H Q E h => ?_) (fun cdv A outer s H0 vs Q E hr h => ?_)
  · obtain ⟨p, dx, pl, b, h, g, r, c, xs, rfl, hp, hd, k⟩ := h
    rfl
  · obtain ⟨p, dx, pl, b, h, g, r, c, xs, rfl, hp, hd, k⟩ := h
    have hu := hu_of hr
    have S : Sep H0 [p] H0 [(1, p, .ins C dx (F_Giver b h pl c)), (0, pl, .lst xs)] := ((Sep.of1 hp).add 0 hd (fun c hc z => by rw [List.mem_singleton.mp hc] at z; exact ne_of hp hd (by intro z; cases z) z) (fun z => by cases z) (fun z => by cases z)).sub [1, 0]
    refine ⟨_, pss_cons (ps_set (i := 3) sc_Giver_heard.nd rfl (.inl rfl) (pe_callB (cl_max rfl) (by rfl) z_max (by decide +kernel) (pa_cons (pe_op op_sub (pv 1) (pe_fldK K (pv 0))) (pa_cons (pe_int) pa_nil))))
      (pss_cons (ps_fld1 (pv 0) (pe_slice (sl_listK K) (pe_fldK K (pv 0)) (po_some (pv 3)) (po_none)) rfl)
      (pss_cons (ps_fldaug1 (pv 0) (pv 3) in_add)
      (pss_one (ps_fld1 (pv 0) (pe_callB (cl_max rfl) (by rfl) z_max (by decide +kernel) (pa_cons (pe_fldK K (pv 0)) (pa_cons (pv 2) pa_nil))) rfl)))), ?_⟩
    rw [show start ["self", "got", "room", "less"] [V.ref p, V.int g, V.int r] = [some (V.ref p), some (V.int g), some (V.int r), none] from rfl]
    try dsimp only [tMethS1, tMethKS1, WE, tSeq, tAsg, gName, tOp, tUn, tCB, tCons, tNil, tCall, tMethK1, tCallK1, tPar3, tRet, tRetN, tDrop, tTest, tB, tC, tNext, tAugS, tAug, sFld1, sFldAug1, tMeth1, tMake, tMakeK1, tSl, tPart, tNoPart, sDPut1, tDPop, tBM, tBM0, tPar, gSub, tChain, tNot, tNotV, tDG1, tDG2, tDNewT1, iKeys1, iEnum1, iList1, iTup1, iRng1, iRng2, List.set_cons_zero, List.set_cons_succ]
    refine x_var (by exact rfl) ?_
    refine x_var (by exact rfl) ?_
    refine x_fld S 0 (by exact rfl) T.c_Giver T.na_Giver_behind lk_Giver_behind ?_
    refine x_I0 ?_
    refine x_max ?_
    try dsimp only [tMethS1, tMethKS1, WE, tSeq, tAsg, gName, tOp, tUn, tCB, tCons, tNil, tCall, tMethK1, tCallK1, tPar3, tRet, tRetN, tDrop, tTest, tB, tC, tNext, tAugS, tAug, sFld1, sFldAug1, tMeth1, tMake, tMakeK1, tSl, tPart, tNoPart, sDPut1, tDPop, tBM, tBM0, tPar, gSub, tChain, tNot, tNotV, tDG1, tDG2, tDNewT1, iKeys1, iEnum1, iList1, iTup1, iRng1, iRng2, List.set_cons_zero, List.set_cons_succ]
    refine x_var (by exact rfl) ?_
    refine x_fld S 0 (by exact rfl) T.c_Giver T.na_Giver_pieces lk_Giver_pieces ?_
    refine x_var (by exact rfl) ?_
    refine ⟨_, rfl, ?_⟩
    refine x_slL S 1 (by exact rfl) (fun sl1 H S => ?_)
    refine x_var (by exact rfl) ?_
    refine x_sfld S 1 (by exact rfl) T.c_Giver T.na_Giver_pieces pt_Giver_pieces (by exact Nat.le_of_ble_eq_true rfl) (fun H S => ?_)
    simp only [List.set_cons_zero, List.set_cons_succ] at S
    try dsimp only [tMethS1, tMethKS1, WE, tSeq, tAsg, gName, tOp, tUn, tCB, tCons, tNil, tCall, tMethK1, tCallK1, tPar3, tRet, tRetN, tDrop, tTest, tB, tC, tNext, tAugS, tAug, sFld1, sFldAug1, tMeth1, tMake, tMakeK1, tSl, tPart, tNoPart, sDPut1, tDPop, tBM, tBM0, tPar, gSub, tChain, tNot, tNotV, tDG1, tDG2, tDNewT1, iKeys1, iEnum1, iList1, iTup1, iRng1, iRng2, List.set_cons_zero, List.set_cons_succ]
    refine x_var (by exact rfl) ?_
    refine x_fldA S 1 (by exact rfl) T.c_Giver T.na_Giver_behind lk_Giver_behind ?_
    refine x_var (by exact rfl) ?_
    refine x_add ?_
    refine x_augf S 1 (by exact rfl) pt_Giver_behind (by exact Nat.le_of_ble_eq_true rfl) (fun H S => ?_)
    simp only [List.set_cons_zero, List.set_cons_succ] at S
    try dsimp only [tMethS1, tMethKS1, WE, tSeq, tAsg, gName, tOp, tUn, tCB, tCons, tNil, tCall, tMethK1, tCallK1, tPar3, tRet, tRetN, tDrop, tTest, tB, tC, tNext, tAugS, tAug, sFld1, sFldAug1, tMeth1, tMake, tMakeK1, tSl, tPart, tNoPart, sDPut1, tDPop, tBM, tBM0, tPar, gSub, tChain, tNot, tNotV, tDG1, tDG2, tDNewT1, iKeys1, iEnum1, iList1, iTup1, iRng1, iRng2, List.set_cons_zero, List.set_cons_succ]
    refine x_var (by exact rfl) ?_
    refine x_fld S 1 (by exact rfl) T.c_Giver T.na_Giver_below lk_Giver_below ?_
    refine x_var (by exact rfl) ?_
    refine x_max ?_
    refine x_var (by exact rfl) ?_
    refine x_sfld S 1 (by exact rfl) T.c_Giver T.na_Giver_below pt_Giver_below (by exact Nat.le_of_ble_eq_true rfl) (fun H S => ?_)
    simp only [List.set_cons_zero, List.set_cons_succ] at S
    rw [cutV_from (by omega), show (max (g - h) 0).toNat = (g - h).toNat by omega] at S
    exact k _ _ (S.new_none 0 rfl) (S.get 1 rfl) (S.get 0 rfl) S.out1
end
theorem WIn.nil {L : List Cell} {h : Int} {xs : List V} : WIn L h (xs.take 0) [] := ⟨rfl, fun _ _ h => by simp at h⟩
theorem WIn.snoc {L : List Cell} {h : Int} {xs vs : List V} {a : Addr} {x : V} {i : Nat} (w : WIn L h xs vs) (hi : xs.length = i) : WIn ((2, a, HO.tup [.int (h + (i : Nat)), x]) :: L) h (xs ++ [x]) (vs ++ [V.ref a]) := by
  refine ⟨by rw [List.length_append, List.length_append, w.1]; rfl, fun j v hj => ?_⟩
  by_cases c : j < vs.length
  · rw [List.getElem?_append_left c] at hj
    obtain ⟨b, y, e1, e2, e3⟩ := w.2 j v hj
    exact ⟨b, y, e1, by rw [List.getElem?_append_left (by rw [← w.1]; exact c)]; exact e2, List.mem_cons_of_mem _ e3⟩
  · have hj2 := hj
    rw [List.getElem?_append_right (by omega)] at hj
    have hl := (List.getElem?_eq_some_iff.mp hj2).1
    rw [List.length_append] at hl
    have hl : j < vs.length + 1 := hl
    have ej : j = vs.length := by omega
    subst ej
    rw [Nat.sub_self] at hj
    cases hj
    refine ⟨a, x, rfl, ?_, ?_⟩
    · rw [List.getElem?_append_right (by rw [w.1]; exact Nat.le_refl _), w.1, Nat.sub_self]; rfl
    · rw [w.1, hi]; exact List.mem_cons_self
end G

set_option linter.all false
set_option maxRecDepth 100000
set_option maxHeartbeats 4000000
namespace G
open PySem PySem.Spec PyProof.Rows L2
section
variable {P : Program} {w : World} {K : PySem.W.Frag} {mg : Str → Option Value} {base : Heap}
abbrev s_Giver_wanted : Stmt := (inClass (topS 18) 5)
theorem sc_Giver_wanted : FnScope ["self", "at", "value"] ["self"] (defScope s_Giver_wanted) := ⟨rfl, rfl, rfl, by decide +kernel, rfl, by decide +kernel, by decide +kernel⟩
theorem ok_Giver_wanted {f : Addr} {fd : FuncData} {C : Addr} (F : L2.Fun K "wanted" "Giver.wanted" s_Giver_wanted f fd) (T : GvCls K C) (z_enumerate : mg "enumerate" = none) : FnOk P w K mg base CX0 1 f fd ["self"] (spWanted C) := by
  refine F.ok sc_Giver_wanted (fun vs H Q E h => ?_) (fun cdv A outer s H0 vs Q E hr h => ?_)
  · obtain ⟨p, dx, pl, b, h, c, xs, rfl, hp, hd, hxl, k⟩ := h
    rfl
  · obtain ⟨p, dx, pl, b, h, c, xs, rfl, hp, hd, hxl, k⟩ := h
    have hu := hu_of hr
    have S : Sep H0 [] H0 [(0, p, .ins C dx (F_Giver b h pl c)), (0, pl, .lst xs)] := (Sep.of0.add 0 hd (fun _ z => nomatch z) (fun z => by cases z) (fun z => by cases z)).add 0 hp (fun c hc z => by rw [List.mem_singleton.mp hc] at z; exact ne_of hd hp (by intro z; cases z) z) (fun z => by cases z) (fun z => by cases z)
    refine ⟨_, pss_one (ps_ret (pe_lc (own := [("at", 1), ("value", 2)]) (g := gTup K 2 (gCons (gName 1) (gCons (gName 2) gNil))) rfl sc_Giver_wanted.nd (pi_enumK K (by rfl) z_enumerate (pa_cons (pe_fldK K (pv 0)) pa_nil)) (blkOk_by (N := ["self", "at", "value"]) (sc := defScope s_Giver_wanted) (by decide +kernel)) (fun _ _ _ _ _ => pg_tupK K 2 rfl (pgs_cons (pg_name (i := 1) sc_Giver_wanted.nd rfl (.inl rfl)) (pgs_cons (pg_name (i := 2) sc_Giver_wanted.nd rfl (.inl rfl)) (pgs_nil)))) (fun _ _ _ _ _ => pts_nil) (fun _ _ _ _ _ => pe_tup1 (pa_cons (pe_op op_add (pe_fldK K (pv 0)) (pv 1)) (pa_cons (pv 2) pa_nil))))), ?_⟩
    rw [show start ["self", "at", "value"] [V.ref p] = [some (V.ref p), none, none] from rfl]
    try dsimp only [tMethS1, tMethKS1, WE, tSeq, tAsg, gName, tOp, tUn, tCB, tCons, tNil, tCall, tMethK1, tCallK1, tPar3, tRet, tRetN, tDrop, tTest, tB, tC, tNext, tAugS, tAug, sFld1, sFldAug1, tMeth1, tMake, tMakeK1, tSl, tPart, tNoPart, sDPut1, tDPop, tBM, tBM0, tPar, gSub, tChain, tNot, tNotV, tDG1, tDG2, tDNewT1, iKeys1, iEnum1, iList1, iTup1, iRng1, iRng2, List.set_cons_zero, List.set_cons_succ]
    refine x_lc ?_
    try dsimp only [tMethS1, tMethKS1, tOp, tUn, tCB, tCons, tNil, tCall, tMethK1, tCallK1, tC, tMeth1, tMake, tMakeK1, tSl, tPart, tNoPart, tDPop, tChain, tNotV, tBM, tBM0, tDG1, tDG2, tDNewT1, iKeys1, iEnum1, iList1, iTup1, iRng1, iRng2]
    refine x_var (by exact rfl) ?_
    refine x_fld S 0 (by exact rfl) T.c_Giver T.na_Giver_pieces lk_Giver_pieces ?_
    refine x_enum S 1 (by exact rfl) ?_
    refine lcW (walk_enum (xs := xs)) S (fun D1 H S => ⟨fun i H1 => ∃ (ws : List V) (L : List Cell), WIn L h (xs.take i) ws ∧ (∀ c ∈ L, c.1 = 2) ∧ Sep H0 [] H1 ((2, D1, .lst ws) :: (0, p, .ins C dx (F_Giver b h pl c)) :: (0, pl, .lst xs) :: L), ?_, ?_, ?_, ?_⟩)
    · exact ⟨[], [], WIn.nil, (fun _ h => nomatch h), S⟩
    · rintro i H hi ⟨ws, L, hw, hL, S⟩
      exact S.sl 2 rfl
    · rintro i y H H9 hi ⟨ws, L, hw, hL, S⟩ hy
      obtain ⟨T9, xi, xv, rfl, hT9, rfl, hxi, hxv⟩ := hy
      have S := S.new hT9 (.tup [xi, xv])
      obtain rfl := Option.some.inj hxi.symm
      refine ⟨_, _, rfl, S.st 0 rfl, rfl, _, _, rfl, _, _, rfl, rfl, ?_⟩
      refine ⟨rfl, ?_⟩
      try dsimp only [tMethS1, tMethKS1, WE, wipe, tYes, tSeq, tAsg, gName, tOp, tUn, tCB, tCons, tNil, tCall, tMethK1, tCallK1, tPar3, tRet, tRetN, tDrop, tTest, tB, tC, tNext, tAugS, tAug, sFld1, sFldAug1, tMeth1, tMake, tMakeK1, tSl, tPart, tNoPart, sDPut1, tDPop, tBM, tBM0, tPar, gSub, tChain, tNot, tNotV, tDG1, tDG2, tDNewT1, iKeys1, iEnum1, iList1, iTup1, iRng1, iRng2, List.set_cons_zero, List.set_cons_succ]
      refine iteT ?_
      refine x_var (by exact rfl) ?_
      refine x_fld S 2 (by exact rfl) T.c_Giver T.na_Giver_behind lk_Giver_behind ?_
      refine x_var (by exact rfl) ?_
      refine x_I0 ?_
      refine x_var (by exact rfl) ?_
      refine x_tup S (by exact Nat.le_of_ble_eq_true rfl) (fun U1 H S => ?_)
      refine x_lcapp S 2 (by exact rfl) (by have := hw.1; rw [List.length_take] at this; omega) (fun H S => ?_)
      simp only [List.set_cons_zero, List.set_cons_succ] at S
      have S := S.subT 5 [2, 3, 4, 0]
      refine ⟨ws ++ [V.ref U1], (2, U1, HO.tup [.int (h + (i : Nat)), xv]) :: L, ?_, ?_, S⟩
      · rw [take_snoc hxv]; exact hw.snoc (by rw [List.length_take]; omega)
      · exact fun c hc => (List.mem_cons.mp hc).elim (fun e => by rw [e]) (hL c)
    · rintro H ⟨ws, L, hw, hL, S⟩
      rw [List.take_length] at hw
      exact k _ _ _ _ hL hw (S.subT 3 [0])
abbrev s_Giver_is_shut : Stmt := (inClass (topS 18) 7)
theorem sc_Giver_is_shut : FnScope ["self"] ["self"] (defScope s_Giver_is_shut) := ⟨rfl, rfl, rfl, by decide +kernel, rfl, by decide +kernel, by decide +kernel⟩
theorem ok_Giver_is_shut {f : Addr} {fd : FuncData} {C : Addr} (F : L2.Fun K "is_shut" "Giver.is_shut" s_Giver_is_shut f fd) (T : GvCls K C) : FnOk P w K mg base CX0 1 f fd ["self"] (spIsShut C) := by
  refine F.ok sc_Giver_is_shut (fun vs H Q E h => ?_) (fun cdv A outer s H0 vs Q E hr h => ?_)
  · obtain ⟨p, dx, pl, b, h, c, rfl, hp, k⟩ := h
    rfl
  · obtain ⟨p, dx, pl, b, h, c, rfl, hp, k⟩ := h
    have hu := hu_of hr
    have S : Sep H0 [] H0 [(0, p, .ins C dx (F_Giver b h pl c))] := Sep.of0.add 0 hp (fun _ z => nomatch z) (fun z => by cases z) (fun z => by cases z)
    refine ⟨_, pss_one (ps_ret (pe_fldK K (pv 0))), ?_⟩
    rw [show start ["self"] [V.ref p] = [some (V.ref p)] from rfl]
    try dsimp only [tMethS1, tMethKS1, WE, tSeq, tAsg, gName, tOp, tUn, tCB, tCons, tNil, tCall, tMethK1, tCallK1, tPar3, tRet, tRetN, tDrop, tTest, tB, tC, tNext, tAugS, tAug, sFld1, sFldAug1, tMeth1, tMake, tMakeK1, tSl, tPart, tNoPart, sDPut1, tDPop, tBM, tBM0, tPar, gSub, tChain, tNot, tNotV, tDG1, tDG2, tDNewT1, iKeys1, iEnum1, iList1, iTup1, iRng1, iRng2, List.set_cons_zero, List.set_cons_succ]
    refine x_var (by exact rfl) ?_
    refine x_fld S 0 (by exact rfl) T.c_Giver T.na_Giver_closed lk_Giver_closed ?_
    exact k
end

def spPutX2 (C CS CN : Addr) : Sp := fun vs H Q E => ∃ (p dx pl : Addr) (b h : Int) (c : Bool) (xs : List V) (v : V), vs = [.ref p, v] ∧ H p = some (.ins C dx (F_Giver b h pl c)) ∧ H pl = some (.lst xs) ∧ xs.length < 100000 ∧
  (c = false → h + xs.length < b → ∀ H' : Hp, H' pl = some (.lst (xs ++ [v])) → (∀ b o, H b = some o → b ≠ pl → H' b = some o) → Q .non H') ∧ (c = true → E (.ref CS) none H) ∧ (c = false → ¬ h + xs.length < b → E (.ref CN) none H)
theorem c_putX2 {C CS CN : Addr} {H0 H : Hp} {ft : List Addr} {l : List Cell} {t1 t2 : Nat} {p dx pl : Addr} {b h : Int} {c : Bool} {xs : List V} {v : V} {Q : VK} {E : XK} (S : Sep H0 ft H l) (n m : Nat) (e1 : l[n]? = some (t1, p, .ins C dx (F_Giver b h pl c))) (e2 : l[m]? = some (t2, pl, .lst xs)) (hl : xs.length < 100000)
    (k : c = false → h + xs.length < b → ∀ H', Sep H0 ft H' (l.set m (t2, pl, .lst (xs ++ [v]))) → Q .non H') (kS : c = true → E (.ref CS) none H) (kN : c = false → ¬ h + xs.length < b → E (.ref CN) none H) (ht : t2 = 1 ∨ t2 = 2 := by first | exact .inl rfl | exact .inr rfl) : spPutX2 C CS CN [.ref p, v] H Q E :=
  ⟨p, dx, pl, b, h, c, xs, v, rfl, S.get n e1, S.get m e2, hl, fun hc hb H' e F => k hc hb H' (S.chg1 m e2 F e ht), kS, kN⟩
def spShutX (C CS : Addr) : Sp := fun vs H Q E => ∃ (p dx pl : Addr) (b h : Int) (c : Bool), vs = [.ref p] ∧ H p = some (.ins C dx (F_Giver b h pl c)) ∧ (c = false → ∀ H' : Hp, H' p = some (.ins C dx (F_Giver b h pl true)) → (∀ b o, H b = some o → b ≠ p → H' b = some o) → Q .non H') ∧ (c = true → E (.ref CS) none H)
theorem c_shutX {C CS : Addr} {H0 H : Hp} {ft : List Addr} {l : List Cell} {t1 : Nat} {p dx pl : Addr} {b h : Int} {c : Bool} {Q : VK} {E : XK} (S : Sep H0 ft H l) (n : Nat) (e1 : l[n]? = some (t1, p, .ins C dx (F_Giver b h pl c)))
    (k : c = false → ∀ H', Sep H0 ft H' (l.set n (t1, p, .ins C dx (F_Giver b h pl true))) → Q .non H') (kS : c = true → E (.ref CS) none H) (ht : t1 = 1 ∨ t1 = 2 := by first | exact .inl rfl | exact .inr rfl) : spShutX C CS [.ref p] H Q E := ⟨p, dx, pl, b, h, c, rfl, S.get n e1, fun hc H' e F => k hc H' (S.chg1 n e1 F e ht), kS⟩
section
variable {P : Program} {w : World} {K : PySem.W.Frag} {mg : Str → Option Value} {base : Heap}
abbrev s_Giver_put : Stmt := (inClass (topS 18) 1)
theorem sc_Giver_put : FnScope ["self", "value"] ["self", "value"] (defScope s_Giver_put) := ⟨rfl, rfl, rfl, by decide +kernel, rfl, by decide +kernel, by decide +kernel⟩
theorem ok_Giver_put {f : Addr} {fd : FuncData} {C CS CN : Addr} (F : L2.Fun K "put" "Giver.put" s_Giver_put f fd) (T : GvCls K C) (cSH : ExcC K mg "Shut" CS) (cNR : ExcC K mg "NoRoom" CN) (mmany : Met P w K mg base CX0 1 C "many" (spMany C)) : FnOk P w K mg base (L2.CX P w) 2 f fd ["self", "value"] (spPutX2 C CS CN) := by
  refine F.okX sc_Giver_put (fun vs H Q E h => ?_) (fun cdv A outer s H0 vs Q E hr h => ?_)
  · obtain ⟨p, dx, pl, b, h, c, xs, v, rfl, hp, hd, hl, k, kS, kN⟩ := h
    rfl
  · obtain ⟨p, dx, pl, b, h, c, xs, v, rfl, hp, hd, hl, k, kS, kN⟩ := h
    have hu := hu_of hr
    have S : Sep H0 [pl] H0 [(0, p, .ins C dx (F_Giver b h pl c)), (1, pl, .lst xs)] := (Sep.of1 hd).add 0 hp (fun c hc z => by rw [List.mem_singleton.mp hc] at z; exact ne_of hd hp (by intro z; cases z) z) (fun z => by cases z) (fun z => by cases z)
    refine ⟨_, pss_cons (ps_if (pt_val (pe_fldK K (pv 0))) (pss_one (ps_raiseC cSH rfl (takes_of rfl rfl rfl rfl) (by rfl))) (pss_nil))
      (pss_cons (ps_if (pt_cmpR op_ge (pe_mt0 mmany hr (by decide) pass0 (pv 0)) (pe_fldK K (pv 0)) (nomark _)) (pss_one (ps_raiseC cNR rfl (takes_of rfl rfl rfl rfl) (by rfl))) (pss_nil))
      (pss_one (ps_expr (pe_bm PySem.F.plainAttrs_list PySem.F.slot_list_append PySem.F.type_list_append mt_append (pe_fldK K (pv 0)) (pa_cons (pv 1) pa_nil))))), ?_⟩
    rw [show start ["self", "value"] [V.ref p, v] = [some (V.ref p), some (v)] from rfl]
    try dsimp only [tMethS1, tMethKS1, WE, tSeq, tAsg, gName, tOp, tUn, tCB, tCons, tNil, tCall, tMethK1, tCallK1, tPar3, tRet, tRetN, tDrop, tTest, tB, tC, tNext, tAugS, tAug, sFld1, sFldAug1, tMeth1, tMake, tMakeK1, tSl, tPart, tNoPart, sDPut1, tDPop, tBM, tBM0, tPar, gSub, tChain, tNot, tNotV, tDG1, tDG2, tDNewT1, iKeys1, iEnum1, iList1, iTup1, iRng1, iRng2, List.set_cons_zero, List.set_cons_succ]
    refine x_if ?_
    try dsimp only [tMethS1, tMethKS1, WE, tSeq, tAsg, gName, tOp, tUn, tCB, tCons, tNil, tCall, tMethK1, tCallK1, tPar3, tRet, tRetN, tDrop, tTest, tB, tC, tNext, tAugS, tAug, sFld1, sFldAug1, tMeth1, tMake, tMakeK1, tSl, tPart, tNoPart, sDPut1, tDPop, tBM, tBM0, tPar, gSub, tChain, tNot, tNotV, tDG1, tDG2, tDNewT1, iKeys1, iEnum1, iList1, iTup1, iRng1, iRng2, List.set_cons_zero, List.set_cons_succ]
    refine x_var (by exact rfl) ?_
    refine x_fld S 0 (by exact rfl) T.c_Giver T.na_Giver_closed lk_Giver_closed ?_
    refine ⟨_, rfl, ?_⟩
    refine iteb (fun c1 => ?_) (fun c1 => ?_)
    · try dsimp only [tMethS1, tMethKS1, WE, tSeq, tAsg, gName, tOp, tUn, tCB, tCons, tNil, tCall, tMethK1, tCallK1, tPar3, tRet, tRetN, tDrop, tTest, tB, tC, tNext, tAugS, tAug, sFld1, sFldAug1, tMeth1, tMake, tMakeK1, tSl, tPart, tNoPart, sDPut1, tDPop, tBM, tBM0, tPar, gSub, tChain, tNot, tNotV, tDG1, tDG2, tDNewT1, iKeys1, iEnum1, iList1, iTup1, iRng1, iRng2, List.set_cons_zero, List.set_cons_succ]
      exact kS c1
    · try dsimp only [tMethS1, tMethKS1, WE, tSeq, tAsg, gName, tOp, tUn, tCB, tCons, tNil, tCall, tMethK1, tCallK1, tPar3, tRet, tRetN, tDrop, tTest, tB, tC, tNext, tAugS, tAug, sFld1, sFldAug1, tMeth1, tMake, tMakeK1, tSl, tPart, tNoPart, sDPut1, tDPop, tBM, tBM0, tPar, gSub, tChain, tNot, tNotV, tDG1, tDG2, tDNewT1, iKeys1, iEnum1, iList1, iTup1, iRng1, iRng2, List.set_cons_zero, List.set_cons_succ]
      refine x_if ?_
      try dsimp only [tMethS1, tMethKS1, WE, tSeq, tAsg, gName, tOp, tUn, tCB, tCons, tNil, tCall, tMethK1, tCallK1, tPar3, tRet, tRetN, tDrop, tTest, tB, tC, tNext, tAugS, tAug, sFld1, sFldAug1, tMeth1, tMake, tMakeK1, tSl, tPart, tNoPart, sDPut1, tDPop, tBM, tBM0, tPar, gSub, tChain, tNot, tNotV, tDG1, tDG2, tDNewT1, iKeys1, iEnum1, iList1, iTup1, iRng1, iRng2, List.set_cons_zero, List.set_cons_succ]
      refine x_var (by exact rfl) ?_
      refine x_meth S 0 (by exact rfl) nk_Giver_many ?_
      refine c_many S 0 1 (by exact rfl) (by exact rfl) ?_
      refine x_var (by exact rfl) ?_
      refine x_fld S 0 (by exact rfl) T.c_Giver T.na_Giver_below lk_Giver_below ?_
      refine x_I0 ?_
      refine ⟨_, rfl, ?_⟩
      refine ited (fun c2 => ?_) (fun c2 => ?_)
      · try dsimp only [tMethS1, tMethKS1, WE, tSeq, tAsg, gName, tOp, tUn, tCB, tCons, tNil, tCall, tMethK1, tCallK1, tPar3, tRet, tRetN, tDrop, tTest, tB, tC, tNext, tAugS, tAug, sFld1, sFldAug1, tMeth1, tMake, tMakeK1, tSl, tPart, tNoPart, sDPut1, tDPop, tBM, tBM0, tPar, gSub, tChain, tNot, tNotV, tDG1, tDG2, tDNewT1, iKeys1, iEnum1, iList1, iTup1, iRng1, iRng2, List.set_cons_zero, List.set_cons_succ]
        exact kN c1 (by omega)
      · try dsimp only [tMethS1, tMethKS1, WE, tSeq, tAsg, gName, tOp, tUn, tCB, tCons, tNil, tCall, tMethK1, tCallK1, tPar3, tRet, tRetN, tDrop, tTest, tB, tC, tNext, tAugS, tAug, sFld1, sFldAug1, tMeth1, tMake, tMakeK1, tSl, tPart, tNoPart, sDPut1, tDPop, tBM, tBM0, tPar, gSub, tChain, tNot, tNotV, tDG1, tDG2, tDNewT1, iKeys1, iEnum1, iList1, iTup1, iRng1, iRng2, List.set_cons_zero, List.set_cons_succ]
        refine x_var (by exact rfl) ?_
        refine x_fld S 0 (by exact rfl) T.c_Giver T.na_Giver_pieces lk_Giver_pieces ?_
        refine ⟨x_ty S 1 (by exact rfl), ?_⟩
        refine x_var (by exact rfl) ?_
        refine x_app S 1 (by exact rfl) (by first | omega | decide | (simp only [len_insAt, List.length_map, List.length_append, List.length_cons, List.length_nil, List.length_take, List.length_drop] at *; omega)) (fun H S => ?_)
        simp only [List.set_cons_zero, List.set_cons_succ] at S
        exact k c1 (by omega) _ (S.get 1 rfl) S.out1
abbrev s_Giver_shut : Stmt := (inClass (topS 18) 3)
theorem sc_Giver_shut : FnScope ["self"] ["self"] (defScope s_Giver_shut) := ⟨rfl, rfl, rfl, by decide +kernel, rfl, by decide +kernel, by decide +kernel⟩
theorem ok_Giver_shut {f : Addr} {fd : FuncData} {C CS : Addr} (F : L2.Fun K "shut" "Giver.shut" s_Giver_shut f fd) (T : GvCls K C) (cSH : ExcC K mg "Shut" CS) : FnOk P w K mg base (L2.CX P w) 2 f fd ["self"] (spShutX C CS) := by
  refine F.okX sc_Giver_shut (fun vs H Q E h => ?_) (fun cdv A outer s H0 vs Q E hr h => ?_)
  · obtain ⟨p, dx, pl, b, h, c, rfl, hp, k, kS⟩ := h
    rfl
  · obtain ⟨p, dx, pl, b, h, c, rfl, hp, k, kS⟩ := h
    have hu := hu_of hr
    have S := Sep.of1 hp
    refine ⟨_, pss_cons (ps_if (pt_val (pe_fldK K (pv 0))) (pss_one (ps_raiseC cSH rfl (takes_of rfl rfl rfl rfl) (by rfl))) (pss_nil))
      (pss_one (ps_fld1 (pv 0) (pe_bl) rfl)), ?_⟩
    rw [show start ["self"] [V.ref p] = [some (V.ref p)] from rfl]
    try dsimp only [tMethS1, tMethKS1, WE, tSeq, tAsg, gName, tOp, tUn, tCB, tCons, tNil, tCall, tMethK1, tCallK1, tPar3, tRet, tRetN, tDrop, tTest, tB, tC, tNext, tAugS, tAug, sFld1, sFldAug1, tMeth1, tMake, tMakeK1, tSl, tPart, tNoPart, sDPut1, tDPop, tBM, tBM0, tPar, gSub, tChain, tNot, tNotV, tDG1, tDG2, tDNewT1, iKeys1, iEnum1, iList1, iTup1, iRng1, iRng2, List.set_cons_zero, List.set_cons_succ]
    refine x_if ?_
    try dsimp only [tMethS1, tMethKS1, WE, tSeq, tAsg, gName, tOp, tUn, tCB, tCons, tNil, tCall, tMethK1, tCallK1, tPar3, tRet, tRetN, tDrop, tTest, tB, tC, tNext, tAugS, tAug, sFld1, sFldAug1, tMeth1, tMake, tMakeK1, tSl, tPart, tNoPart, sDPut1, tDPop, tBM, tBM0, tPar, gSub, tChain, tNot, tNotV, tDG1, tDG2, tDNewT1, iKeys1, iEnum1, iList1, iTup1, iRng1, iRng2, List.set_cons_zero, List.set_cons_succ]
    refine x_var (by exact rfl) ?_
    refine x_fld S 0 (by exact rfl) T.c_Giver T.na_Giver_closed lk_Giver_closed ?_
    refine ⟨_, rfl, ?_⟩
    refine iteb (fun c1 => ?_) (fun c1 => ?_)
    · try dsimp only [tMethS1, tMethKS1, WE, tSeq, tAsg, gName, tOp, tUn, tCB, tCons, tNil, tCall, tMethK1, tCallK1, tPar3, tRet, tRetN, tDrop, tTest, tB, tC, tNext, tAugS, tAug, sFld1, sFldAug1, tMeth1, tMake, tMakeK1, tSl, tPart, tNoPart, sDPut1, tDPop, tBM, tBM0, tPar, gSub, tChain, tNot, tNotV, tDG1, tDG2, tDNewT1, iKeys1, iEnum1, iList1, iTup1, iRng1, iRng2, List.set_cons_zero, List.set_cons_succ]
      exact kS c1
    · try dsimp only [tMethS1, tMethKS1, WE, tSeq, tAsg, gName, tOp, tUn, tCB, tCons, tNil, tCall, tMethK1, tCallK1, tPar3, tRet, tRetN, tDrop, tTest, tB, tC, tNext, tAugS, tAug, sFld1, sFldAug1, tMeth1, tMake, tMakeK1, tSl, tPart, tNoPart, sDPut1, tDPop, tBM, tBM0, tPar, gSub, tChain, tNot, tNotV, tDG1, tDG2, tDNewT1, iKeys1, iEnum1, iList1, iTup1, iRng1, iRng2, List.set_cons_zero, List.set_cons_succ]
      refine x_var (by exact rfl) ?_
      refine x_sfld S 0 (by exact rfl) T.c_Giver T.na_Giver_closed pt_Giver_closed (by exact Nat.le_of_ble_eq_true rfl) (fun H S => ?_)
      simp only [List.set_cons_zero, List.set_cons_succ] at S
      exact k c1 _ (S.get 0 rfl) S.out1
end
end G

set_option linter.all false
set_option maxRecDepth 100000
set_option maxHeartbeats 4000000
namespace G
open PySem PySem.Spec PyProof.Rows L2

/-- what isinstance tells of an exception of the class D, class by class -/
def Kd15 (K : PySem.W.Frag) (D C_FarError C_Shut C_NoRoom C_BadFrame C_BadWire C_BadService C_BadPlan C_NoHouse C_NoCall C_Ended C_NoTask C_NoDeed C_Broken C_BadText : Addr) (b0 b1 b2 b3 b4 b5 b6 b7 b8 b9 b10 b11 b12 b13 b14 : Bool) : Prop :=
  PySem.W.kitOne K (.ref D) (.ref C_FarError) = some b0 ∧ PySem.W.kitOne K (.ref D) (.type "ValueError") = some b1 ∧ PySem.W.kitOne K (.ref D) (.ref C_Shut) = some b2 ∧ PySem.W.kitOne K (.ref D) (.ref C_NoRoom) = some b3 ∧ PySem.W.kitOne K (.ref D) (.ref C_BadFrame) = some b4 ∧ PySem.W.kitOne K (.ref D) (.ref C_BadWire) = some b5 ∧ PySem.W.kitOne K (.ref D) (.ref C_BadService) = some b6 ∧ PySem.W.kitOne K (.ref D) (.ref C_BadPlan) = some b7 ∧ PySem.W.kitOne K (.ref D) (.ref C_NoHouse) = some b8 ∧ PySem.W.kitOne K (.ref D) (.ref C_NoCall) = some b9 ∧ PySem.W.kitOne K (.ref D) (.ref C_Ended) = some b10 ∧ PySem.W.kitOne K (.ref D) (.ref C_NoTask) = some b11 ∧ PySem.W.kitOne K (.ref D) (.ref C_NoDeed) = some b12 ∧ PySem.W.kitOne K (.ref D) (.ref C_Broken) = some b13 ∧ PySem.W.kitOne K (.ref D) (.ref C_BadText) = some b14
def spKinds (K : PySem.W.Frag) (C_FarError C_Shut C_NoRoom C_BadFrame C_BadWire C_BadService C_BadPlan C_NoHouse C_NoCall C_Ended C_NoTask C_NoDeed C_Broken C_BadText : Addr) : Sp := fun vs H Q _ => ∃ (a D : Addr) (b0 b1 b2 b3 b4 b5 b6 b7 b8 b9 b10 b11 b12 b13 b14 : Bool), vs = [.ref a] ∧ H a = some (ExS (.ref D) none a) ∧ _root_.L2.ExcC K D ∧ Kd15 K D C_FarError C_Shut C_NoRoom C_BadFrame C_BadWire C_BadService C_BadPlan C_NoHouse C_NoCall C_Ended C_NoTask C_NoDeed C_Broken C_BadText b0 b1 b2 b3 b4 b5 b6 b7 b8 b9 b10 b11 b12 b13 b14 ∧ ∀ (r : Addr) (H' : Hp), Sep H [] H' [(2, r, .lst ([b0, b1, b2, b3, b4, b5, b6, b7, b8, b9, b10, b11, b12, b13, b14].map V.bl))] → Q (.ref r) H'
section
variable {P : Program} {w : World} {K : PySem.W.Frag} {mg : Str → Option Value} {base : Heap}
abbrev s_law_kinds : Stmt := (topS 25)
theorem sc_law_kinds : FnScope ["_law_e", "_law_kinds_here"] ["_law_e"] (defScope s_law_kinds) := ⟨rfl, rfl, rfl, by decide +kernel, rfl, by decide +kernel, by decide +kernel⟩
theorem ok_law_kinds {f : Addr} {fd : FuncData} {C_FarError C_Shut C_NoRoom C_BadFrame C_BadWire C_BadService C_BadPlan C_NoHouse C_NoCall C_Ended C_NoTask C_NoDeed C_Broken C_BadText : Addr} (F : L2.Fun K "_law_kinds" "_law_kinds" s_law_kinds f fd) (gFarError : mg "FarError" = some (.ref C_FarError)) (gShut : mg "Shut" = some (.ref C_Shut)) (gNoRoom : mg "NoRoom" = some (.ref C_NoRoom)) (gBadFrame : mg "BadFrame" = some (.ref C_BadFrame)) (gBadWire : mg "BadWire" = some (.ref C_BadWire)) (gBadService : mg "BadService" = some (.ref C_BadService)) (gBadPlan : mg "BadPlan" = some (.ref C_BadPlan)) (gNoHouse : mg "NoHouse" = some (.ref C_NoHouse)) (gNoCall : mg "NoCall" = some (.ref C_NoCall)) (gEnded : mg "Ended" = some (.ref C_Ended)) (gNoTask : mg "NoTask" = some (.ref C_NoTask)) (gNoDeed : mg "NoDeed" = some (.ref C_NoDeed)) (gBroken : mg "Broken" = some (.ref C_Broken)) (gBadText : mg "BadText" = some (.ref C_BadText)) (z_isinstance : mg "isinstance" = none) (z_ValueError : mg "ValueError" = none) : FnOk P w K mg base CX0 1 f fd ["_law_e"] (spKinds K C_FarError C_Shut C_NoRoom C_BadFrame C_BadWire C_BadService C_BadPlan C_NoHouse C_NoCall C_Ended C_NoTask C_NoDeed C_Broken C_BadText) := by
  refine F.ok sc_law_kinds (fun vs H Q E h => ?_) (fun cdv A outer s H0 vs Q E hr h => ?_)
  · obtain ⟨a, D, b0, b1, b2, b3, b4, b5, b6, b7, b8, b9, b10, b11, b12, b13, b14, rfl, ha, xc, ⟨hk0, hk1, hk2, hk3, hk4, hk5, hk6, hk7, hk8, hk9, hk10, hk11, hk12, hk13, hk14⟩, k⟩ := h
    rfl
  · obtain ⟨a, D, b0, b1, b2, b3, b4, b5, b6, b7, b8, b9, b10, b11, b12, b13, b14, rfl, ha, xc, ⟨hk0, hk1, hk2, hk3, hk4, hk5, hk6, hk7, hk8, hk9, hk10, hk11, hk12, hk13, hk14⟩, k⟩ := h
    have hu := hu_of hr
    have S : Sep H0 [] H0 [(0, a, ExS (.ref D) none a)] := Sep.of0.add 0 ha (fun _ z => nomatch z) (fun z => by cases z) (fun z => by cases z)
    refine ⟨_, pss_cons (ps_set (i := 1) sc_law_kinds.nd rfl (.inl rfl) (pe_lst1 (pa_cons (pe_callB (cl_isX K) (by rfl) z_isinstance (by decide +kernel) (pa_cons (pv 0) (pa_cons (pe_glob (v := .ref C_FarError) (by rfl) gFarError rfl) pa_nil))) (pa_cons (pe_callB (cl_isX K) (by rfl) z_isinstance (by decide +kernel) (pa_cons (pv 0) (pa_cons (pe_bltn (v := .ty "ValueError") (by rfl) z_ValueError (by decide +kernel) rfl) pa_nil))) (pa_cons (pe_callB (cl_isX K) (by rfl) z_isinstance (by decide +kernel) (pa_cons (pv 0) (pa_cons (pe_glob (v := .ref C_Shut) (by rfl) gShut rfl) pa_nil))) (pa_cons (pe_callB (cl_isX K) (by rfl) z_isinstance (by decide +kernel) (pa_cons (pv 0) (pa_cons (pe_glob (v := .ref C_NoRoom) (by rfl) gNoRoom rfl) pa_nil))) pa_nil))))))
      (pss_cons (ps_set (i := 1) sc_law_kinds.nd rfl (.inl rfl) (pe_op op_cat (pv 1) (pe_lst1 (pa_cons (pe_callB (cl_isX K) (by rfl) z_isinstance (by decide +kernel) (pa_cons (pv 0) (pa_cons (pe_glob (v := .ref C_BadFrame) (by rfl) gBadFrame rfl) pa_nil))) (pa_cons (pe_callB (cl_isX K) (by rfl) z_isinstance (by decide +kernel) (pa_cons (pv 0) (pa_cons (pe_glob (v := .ref C_BadWire) (by rfl) gBadWire rfl) pa_nil))) (pa_cons (pe_callB (cl_isX K) (by rfl) z_isinstance (by decide +kernel) (pa_cons (pv 0) (pa_cons (pe_glob (v := .ref C_BadService) (by rfl) gBadService rfl) pa_nil))) (pa_cons (pe_callB (cl_isX K) (by rfl) z_isinstance (by decide +kernel) (pa_cons (pv 0) (pa_cons (pe_glob (v := .ref C_BadPlan) (by rfl) gBadPlan rfl) pa_nil))) pa_nil)))))))
      (pss_cons (ps_set (i := 1) sc_law_kinds.nd rfl (.inl rfl) (pe_op op_cat (pv 1) (pe_lst1 (pa_cons (pe_callB (cl_isX K) (by rfl) z_isinstance (by decide +kernel) (pa_cons (pv 0) (pa_cons (pe_glob (v := .ref C_NoHouse) (by rfl) gNoHouse rfl) pa_nil))) (pa_cons (pe_callB (cl_isX K) (by rfl) z_isinstance (by decide +kernel) (pa_cons (pv 0) (pa_cons (pe_glob (v := .ref C_NoCall) (by rfl) gNoCall rfl) pa_nil))) (pa_cons (pe_callB (cl_isX K) (by rfl) z_isinstance (by decide +kernel) (pa_cons (pv 0) (pa_cons (pe_glob (v := .ref C_Ended) (by rfl) gEnded rfl) pa_nil))) (pa_cons (pe_callB (cl_isX K) (by rfl) z_isinstance (by decide +kernel) (pa_cons (pv 0) (pa_cons (pe_glob (v := .ref C_NoTask) (by rfl) gNoTask rfl) pa_nil))) pa_nil)))))))
      (pss_one (ps_ret (pe_op op_cat (pv 1) (pe_lst1 (pa_cons (pe_callB (cl_isX K) (by rfl) z_isinstance (by decide +kernel) (pa_cons (pv 0) (pa_cons (pe_glob (v := .ref C_NoDeed) (by rfl) gNoDeed rfl) pa_nil))) (pa_cons (pe_callB (cl_isX K) (by rfl) z_isinstance (by decide +kernel) (pa_cons (pv 0) (pa_cons (pe_glob (v := .ref C_Broken) (by rfl) gBroken rfl) pa_nil))) (pa_cons (pe_callB (cl_isX K) (by rfl) z_isinstance (by decide +kernel) (pa_cons (pv 0) (pa_cons (pe_glob (v := .ref C_BadText) (by rfl) gBadText rfl) pa_nil))) pa_nil))))))))), ?_⟩
    rw [show start ["_law_e", "_law_kinds_here"] [V.ref a] = [some (V.ref a), none] from rfl]
    try dsimp only [tMethS1, tMethKS1, WE, tSeq, tAsg, gName, tOp, tUn, tCB, tCons, tNil, tCall, tMethK1, tCallK1, tPar3, tRet, tRetN, tDrop, tTest, tB, tC, tNext, tAugS, tAug, sFld1, sFldAug1, tMeth1, tMake, tMakeK1, tSl, tPart, tNoPart, sDPut1, tDPop, tBM, tBM0, tPar, gSub, tChain, tNot, tNotV, tDG1, tDG2, tDNewT1, iKeys1, iEnum1, iList1, iTup1, iRng1, iRng2, List.set_cons_zero, List.set_cons_succ]
    refine x_var (by exact rfl) ?_
    refine x_isX S 0 (by exact rfl) xc (.own _) hk0 ?_
    refine x_var (by exact rfl) ?_
    refine x_isX S 0 (by exact rfl) xc (.ty _) hk1 ?_
    refine x_var (by exact rfl) ?_
    refine x_isX S 0 (by exact rfl) xc (.own _) hk2 ?_
    refine x_var (by exact rfl) ?_
    refine x_isX S 0 (by exact rfl) xc (.own _) hk3 ?_
    refine x_lst S (by exact Nat.le_of_ble_eq_true rfl) (fun L1 H S => ?_)
    try dsimp only [tMethS1, tMethKS1, WE, tSeq, tAsg, gName, tOp, tUn, tCB, tCons, tNil, tCall, tMethK1, tCallK1, tPar3, tRet, tRetN, tDrop, tTest, tB, tC, tNext, tAugS, tAug, sFld1, sFldAug1, tMeth1, tMake, tMakeK1, tSl, tPart, tNoPart, sDPut1, tDPop, tBM, tBM0, tPar, gSub, tChain, tNot, tNotV, tDG1, tDG2, tDNewT1, iKeys1, iEnum1, iList1, iTup1, iRng1, iRng2, List.set_cons_zero, List.set_cons_succ]
    refine x_var (by exact rfl) ?_
    refine x_var (by exact rfl) ?_
    refine x_isX S 1 (by exact rfl) xc (.own _) hk4 ?_
    refine x_var (by exact rfl) ?_
    refine x_isX S 1 (by exact rfl) xc (.own _) hk5 ?_
    refine x_var (by exact rfl) ?_
    refine x_isX S 1 (by exact rfl) xc (.own _) hk6 ?_
    refine x_var (by exact rfl) ?_
    refine x_isX S 1 (by exact rfl) xc (.own _) hk7 ?_
    refine x_lst S (by exact Nat.le_of_ble_eq_true rfl) (fun L2 H S => ?_)
    refine x_cat S 1 0 (by exact rfl) (by exact rfl) (by exact Nat.le_of_ble_eq_true (by exact rfl)) (fun ct1 H S => ?_)
    try dsimp only [tMethS1, tMethKS1, WE, tSeq, tAsg, gName, tOp, tUn, tCB, tCons, tNil, tCall, tMethK1, tCallK1, tPar3, tRet, tRetN, tDrop, tTest, tB, tC, tNext, tAugS, tAug, sFld1, sFldAug1, tMeth1, tMake, tMakeK1, tSl, tPart, tNoPart, sDPut1, tDPop, tBM, tBM0, tPar, gSub, tChain, tNot, tNotV, tDG1, tDG2, tDNewT1, iKeys1, iEnum1, iList1, iTup1, iRng1, iRng2, List.set_cons_zero, List.set_cons_succ]
    refine x_var (by exact rfl) ?_
    refine x_var (by exact rfl) ?_
    refine x_isX S 3 (by exact rfl) xc (.own _) hk8 ?_
    refine x_var (by exact rfl) ?_
    refine x_isX S 3 (by exact rfl) xc (.own _) hk9 ?_
    refine x_var (by exact rfl) ?_
    refine x_isX S 3 (by exact rfl) xc (.own _) hk10 ?_
    refine x_var (by exact rfl) ?_
    refine x_isX S 3 (by exact rfl) xc (.own _) hk11 ?_
    refine x_lst S (by exact Nat.le_of_ble_eq_true rfl) (fun L3 H S => ?_)
    refine x_cat S 1 0 (by exact rfl) (by exact rfl) (by exact Nat.le_of_ble_eq_true (by exact rfl)) (fun ct2 H S => ?_)
    try dsimp only [tMethS1, tMethKS1, WE, tSeq, tAsg, gName, tOp, tUn, tCB, tCons, tNil, tCall, tMethK1, tCallK1, tPar3, tRet, tRetN, tDrop, tTest, tB, tC, tNext, tAugS, tAug, sFld1, sFldAug1, tMeth1, tMake, tMakeK1, tSl, tPart, tNoPart, sDPut1, tDPop, tBM, tBM0, tPar, gSub, tChain, tNot, tNotV, tDG1, tDG2, tDNewT1, iKeys1, iEnum1, iList1, iTup1, iRng1, iRng2, List.set_cons_zero, List.set_cons_succ]
    refine x_var (by exact rfl) ?_
    refine x_var (by exact rfl) ?_
    refine x_isX S 5 (by exact rfl) xc (.own _) hk12 ?_
    refine x_var (by exact rfl) ?_
    refine x_isX S 5 (by exact rfl) xc (.own _) hk13 ?_
    refine x_var (by exact rfl) ?_
    refine x_isX S 5 (by exact rfl) xc (.own _) hk14 ?_
    refine x_lst S (by exact Nat.le_of_ble_eq_true rfl) (fun L4 H S => ?_)
    refine x_cat S 1 0 (by exact rfl) (by exact rfl) (by exact Nat.le_of_ble_eq_true (by exact rfl)) (fun ct3 H S => ?_)
    exact k _ _ (S.subT 8 [0])
end
end G

set_option linter.all false
set_option maxRecDepth 100000
set_option maxHeartbeats 4000000
namespace G
open PySem PySem.Spec PyProof.Rows L2

def spW0 : Sp := fun vs H Q _ => vs = [.non, .non] ∧ Q (.str "none") H
def spW1 (D : Addr) (x : Str) : Sp := fun vs H Q _ => ∃ (a : Addr) (f : V), vs = [.ref a, f] ∧ H a = some (ExS (.ref D) none a) ∧ ∀ H' : Hp, (∀ b o, H b = some o → H' b = some o) → Q (.str x) H'
def spWord (CS CN : Addr) : Sp := fun vs H Q E => spW0 vs H Q E ∨ (spW1 CS "shut" vs H Q E ∨ spW1 CN "room" vs H Q E)
section
variable {P : Program} {w : World} {K : PySem.W.Frag} {mg : Str → Option Value} {base : Heap}
abbrev s_law_word : Stmt := (topS 28)
theorem sc_law_word : FnScope ["_law_caught", "_law_found", "_law_kinds_here"] ["_law_caught", "_law_found"] (defScope s_law_word) := ⟨rfl, rfl, rfl, by decide +kernel, rfl, by decide +kernel, by decide +kernel⟩
theorem ok_law_word0 {f : Addr} {fd : FuncData} {C_FarError C_Shut C_NoRoom C_BadFrame C_BadWire C_BadService C_BadPlan C_NoHouse C_NoCall C_Ended C_NoTask C_NoDeed C_Broken C_BadText : Addr} (F : L2.Fun K "_law_word" "_law_word" s_law_word f fd) (ckd : Cal P w K mg base CX0 1 "_law_kinds" (spKinds K C_FarError C_Shut C_NoRoom C_BadFrame C_BadWire C_BadService C_BadPlan C_NoHouse C_NoCall C_Ended C_NoTask C_NoDeed C_Broken C_BadText)) (xcS : _root_.L2.ExcC K C_Shut) (xcN : _root_.L2.ExcC K C_NoRoom) (kdS : Kd15 K C_Shut C_FarError C_Shut C_NoRoom C_BadFrame C_BadWire C_BadService C_BadPlan C_NoHouse C_NoCall C_Ended C_NoTask C_NoDeed C_Broken C_BadText true true true false false false false false false false false false false false false) (kdN : Kd15 K C_NoRoom C_FarError C_Shut C_NoRoom C_BadFrame C_BadWire C_BadService C_BadPlan C_NoHouse C_NoCall C_Ended C_NoTask C_NoDeed C_Broken C_BadText true true false true false false false false false false false false false false false) : FnOk P w K mg base CX0 2 f fd ["_law_caught", "_law_found"] spW0 := by
  refine F.ok sc_law_word (fun vs H Q E h => ?_) (fun cdv A outer s H0 vs Q E hr h => ?_)
  · obtain ⟨rfl, k⟩ := h
    rfl
  · obtain ⟨rfl, k⟩ := h
    have hu := hu_of hr
    have S := Sep.of0 (H := H0)
    refine ⟨_, pss_cons (ps_if (pt_cmpR op_isN (pv 0) (pe_non) (nomark _)) (pss_one (ps_ret (pe_ifExp (pt_cmpR op_isN (pv 1) (pe_non) (nomark _)) (pe_str) (pe_never)))) (pss_nil))
      (pss_cons (ps_never)
      (pss_cons (ps_never)
      (pss_one (ps_never)))), ?_⟩
    rw [show start ["_law_caught", "_law_found", "_law_kinds_here"] [V.non, V.non] = [some (V.non), some (V.non), none] from rfl]
    try dsimp only [tMethS1, tMethKS1, WE, tSeq, tAsg, gName, tOp, tUn, tCB, tCons, tNil, tCall, tMethK1, tCallK1, tPar3, tRet, tRetN, tDrop, tTest, tB, tC, tNext, tAugS, tAug, sFld1, sFldAug1, tMeth1, tMake, tMakeK1, tSl, tPart, tNoPart, sDPut1, tDPop, tBM, tBM0, tPar, gSub, tChain, tNot, tNotV, tDG1, tDG2, tDNewT1, iKeys1, iEnum1, iList1, iTup1, iRng1, iRng2, List.set_cons_zero, List.set_cons_succ]
    refine x_if ?_
    try dsimp only [tMethS1, tMethKS1, WE, tSeq, tAsg, gName, tOp, tUn, tCB, tCons, tNil, tCall, tMethK1, tCallK1, tPar3, tRet, tRetN, tDrop, tTest, tB, tC, tNext, tAugS, tAug, sFld1, sFldAug1, tMeth1, tMake, tMakeK1, tSl, tPart, tNoPart, sDPut1, tDPop, tBM, tBM0, tPar, gSub, tChain, tNot, tNotV, tDG1, tDG2, tDNewT1, iKeys1, iEnum1, iList1, iTup1, iRng1, iRng2, List.set_cons_zero, List.set_cons_succ]
    refine x_var (by exact rfl) ?_
    refine ⟨rfl, ?_⟩
    refine ⟨_, rfl, ?_⟩
    refine ited (fun c1 => ?_) (fun h => absurd rfl h)
    try dsimp only [tMethS1, tMethKS1, WE, tSeq, tAsg, gName, tOp, tUn, tCB, tCons, tNil, tCall, tMethK1, tCallK1, tPar3, tRet, tRetN, tDrop, tTest, tB, tC, tNext, tAugS, tAug, sFld1, sFldAug1, tMeth1, tMake, tMakeK1, tSl, tPart, tNoPart, sDPut1, tDPop, tBM, tBM0, tPar, gSub, tChain, tNot, tNotV, tDG1, tDG2, tDNewT1, iKeys1, iEnum1, iList1, iTup1, iRng1, iRng2, List.set_cons_zero, List.set_cons_succ]
    refine x_ifE ?_
    try dsimp only [tMethS1, tMethKS1, WE, tSeq, tAsg, gName, tOp, tUn, tCB, tCons, tNil, tCall, tMethK1, tCallK1, tPar3, tRet, tRetN, tDrop, tTest, tB, tC, tNext, tAugS, tAug, sFld1, sFldAug1, tMeth1, tMake, tMakeK1, tSl, tPart, tNoPart, sDPut1, tDPop, tBM, tBM0, tPar, gSub, tChain, tNot, tNotV, tDG1, tDG2, tDNewT1, iKeys1, iEnum1, iList1, iTup1, iRng1, iRng2, List.set_cons_zero, List.set_cons_succ]
    refine x_var (by exact rfl) ?_
    refine ⟨rfl, ?_⟩
    refine ⟨_, rfl, ?_⟩
    refine ited (fun c2 => ?_) (fun h => absurd rfl h)
    exact k
theorem ok_law_wordS {f : Addr} {fd : FuncData} {C_FarError C_Shut C_NoRoom C_BadFrame C_BadWire C_BadService C_BadPlan C_NoHouse C_NoCall C_Ended C_NoTask C_NoDeed C_Broken C_BadText : Addr} (F : L2.Fun K "_law_word" "_law_word" s_law_word f fd) (ckd : Cal P w K mg base CX0 1 "_law_kinds" (spKinds K C_FarError C_Shut C_NoRoom C_BadFrame C_BadWire C_BadService C_BadPlan C_NoHouse C_NoCall C_Ended C_NoTask C_NoDeed C_Broken C_BadText)) (xcS : _root_.L2.ExcC K C_Shut) (xcN : _root_.L2.ExcC K C_NoRoom) (kdS : Kd15 K C_Shut C_FarError C_Shut C_NoRoom C_BadFrame C_BadWire C_BadService C_BadPlan C_NoHouse C_NoCall C_Ended C_NoTask C_NoDeed C_Broken C_BadText true true true false false false false false false false false false false false false) (kdN : Kd15 K C_NoRoom C_FarError C_Shut C_NoRoom C_BadFrame C_BadWire C_BadService C_BadPlan C_NoHouse C_NoCall C_Ended C_NoTask C_NoDeed C_Broken C_BadText true true false true false false false false false false false false false false false) : FnOk P w K mg base CX0 2 f fd ["_law_caught", "_law_found"] (spW1 C_Shut "shut") := by
  refine F.ok sc_law_word (fun vs H Q E h => ?_) (fun cdv A outer s H0 vs Q E hr h => ?_)
  · obtain ⟨a, f9, rfl, ha, k⟩ := h
    rfl
  · obtain ⟨a, f9, rfl, ha, k⟩ := h
    have hu := hu_of hr
    have S : Sep H0 [] H0 [(0, a, ExS (.ref C_Shut) none a)] := Sep.of0.add 0 ha (fun _ z => nomatch z) (fun z => by cases z) (fun z => by cases z)
    refine ⟨_, pss_cons (ps_if (pt_cmpR op_isN (pv 0) (pe_non) (nomark _)) (pss_one (ps_never)) (pss_nil))
      (pss_cons (ps_set (i := 2) sc_law_word.nd rfl (.inl rfl) (pe_c ckd hr (by decide) (by rfl) pass0 (pa_cons (pv 0) pa_nil)))
      (pss_cons (ps_if (pt_cmpR (op_eqDK K hr.units) (pv 2) (pe_op op_cat (pe_lst1 (pa_cons (pe_bl) (pa_cons (pe_bl) (pa_cons (pe_bl) (pa_cons (pe_bl) pa_nil))))) (pe_op op_rep (pe_lst1 (pa_cons (pe_bl) pa_nil)) (pe_int))) (nomark _)) (pss_one (ps_ret (pe_str))) (pss_nil))
      (pss_one (ps_never)))), ?_⟩
    rw [show start ["_law_caught", "_law_found", "_law_kinds_here"] [V.ref a, f9] = [some (V.ref a), some (f9), none] from rfl]
    try dsimp only [tMethS1, tMethKS1, WE, tSeq, tAsg, gName, tOp, tUn, tCB, tCons, tNil, tCall, tMethK1, tCallK1, tPar3, tRet, tRetN, tDrop, tTest, tB, tC, tNext, tAugS, tAug, sFld1, sFldAug1, tMeth1, tMake, tMakeK1, tSl, tPart, tNoPart, sDPut1, tDPop, tBM, tBM0, tPar, gSub, tChain, tNot, tNotV, tDG1, tDG2, tDNewT1, iKeys1, iEnum1, iList1, iTup1, iRng1, iRng2, List.set_cons_zero, List.set_cons_succ]
    refine x_if ?_
    try dsimp only [tMethS1, tMethKS1, WE, tSeq, tAsg, gName, tOp, tUn, tCB, tCons, tNil, tCall, tMethK1, tCallK1, tPar3, tRet, tRetN, tDrop, tTest, tB, tC, tNext, tAugS, tAug, sFld1, sFldAug1, tMeth1, tMake, tMakeK1, tSl, tPart, tNoPart, sDPut1, tDPop, tBM, tBM0, tPar, gSub, tChain, tNot, tNotV, tDG1, tDG2, tDNewT1, iKeys1, iEnum1, iList1, iTup1, iRng1, iRng2, List.set_cons_zero, List.set_cons_succ]
    refine x_var (by exact rfl) ?_
    refine ⟨rfl, ?_⟩
    refine ⟨_, rfl, ?_⟩
    refine ited (fun h => nomatch h) (fun c1 => ?_)
    try dsimp only [tMethS1, tMethKS1, WE, tSeq, tAsg, gName, tOp, tUn, tCB, tCons, tNil, tCall, tMethK1, tCallK1, tPar3, tRet, tRetN, tDrop, tTest, tB, tC, tNext, tAugS, tAug, sFld1, sFldAug1, tMeth1, tMake, tMakeK1, tSl, tPart, tNoPart, sDPut1, tDPop, tBM, tBM0, tPar, gSub, tChain, tNot, tNotV, tDG1, tDG2, tDNewT1, iKeys1, iEnum1, iList1, iTup1, iRng1, iRng2, List.set_cons_zero, List.set_cons_succ]
    refine x_var (by exact rfl) ?_
    refine ⟨_, _, true, true, true, false, false, false, false, false, false, false, false, false, false, false, false, rfl, S.get 0 rfl, xcS, kdS, fun kr H S9 => ?_⟩
    have S := S.callN S9 (fun c hc => by rw [List.mem_singleton.mp hc])
    rw [List.singleton_append] at S
    try dsimp only [tMethS1, tMethKS1, WE, tSeq, tAsg, gName, tOp, tUn, tCB, tCons, tNil, tCall, tMethK1, tCallK1, tPar3, tRet, tRetN, tDrop, tTest, tB, tC, tNext, tAugS, tAug, sFld1, sFldAug1, tMeth1, tMake, tMakeK1, tSl, tPart, tNoPart, sDPut1, tDPop, tBM, tBM0, tPar, gSub, tChain, tNot, tNotV, tDG1, tDG2, tDNewT1, iKeys1, iEnum1, iList1, iTup1, iRng1, iRng2, List.set_cons_zero, List.set_cons_succ]
    refine x_if ?_
    try dsimp only [tMethS1, tMethKS1, WE, tSeq, tAsg, gName, tOp, tUn, tCB, tCons, tNil, tCall, tMethK1, tCallK1, tPar3, tRet, tRetN, tDrop, tTest, tB, tC, tNext, tAugS, tAug, sFld1, sFldAug1, tMeth1, tMake, tMakeK1, tSl, tPart, tNoPart, sDPut1, tDPop, tBM, tBM0, tPar, gSub, tChain, tNot, tNotV, tDG1, tDG2, tDNewT1, iKeys1, iEnum1, iList1, iTup1, iRng1, iRng2, List.set_cons_zero, List.set_cons_succ]
    refine x_var (by exact rfl) ?_
    refine x_lst S (by exact Nat.le_of_ble_eq_true rfl) (fun L1 H S => ?_)
    refine x_lst S (by exact Nat.le_of_ble_eq_true rfl) (fun L2 H S => ?_)
    refine x_rep S 0 (by exact rfl) (by decide) (by decide) (by exact Nat.le_of_ble_eq_true (by exact rfl)) (fun rp1 H S => ?_)
    refine x_cat S 2 0 (by exact rfl) (by exact rfl) (by exact Nat.le_of_ble_eq_true (by exact rfl)) (fun ct1 H S => ?_)
    refine x_eqB (ps := [true, true, true, false, false, false, false, false, false, false, false, false, false, false, false]) (qs := [true, true, true, false, false, false, false, false, false, false, false, false, false, false, false]) S 4 0 (by exact (by exact rfl)) (by exact (by exact rfl)) (by decide : _ = true) ?_
    refine ⟨_, rfl, ?_⟩
    refine iteT ?_
    try dsimp only [tMethS1, tMethKS1, WE, tSeq, tAsg, gName, tOp, tUn, tCB, tCons, tNil, tCall, tMethK1, tCallK1, tPar3, tRet, tRetN, tDrop, tTest, tB, tC, tNext, tAugS, tAug, sFld1, sFldAug1, tMeth1, tMake, tMakeK1, tSl, tPart, tNoPart, sDPut1, tDPop, tBM, tBM0, tPar, gSub, tChain, tNot, tNotV, tDG1, tDG2, tDNewT1, iKeys1, iEnum1, iList1, iTup1, iRng1, iRng2, List.set_cons_zero, List.set_cons_succ]
    exact k _ (fun b o e => S.fr b o e (by simp))
theorem ok_law_wordR {f : Addr} {fd : FuncData} {C_FarError C_Shut C_NoRoom C_BadFrame C_BadWire C_BadService C_BadPlan C_NoHouse C_NoCall C_Ended C_NoTask C_NoDeed C_Broken C_BadText : Addr} (F : L2.Fun K "_law_word" "_law_word" s_law_word f fd) (ckd : Cal P w K mg base CX0 1 "_law_kinds" (spKinds K C_FarError C_Shut C_NoRoom C_BadFrame C_BadWire C_BadService C_BadPlan C_NoHouse C_NoCall C_Ended C_NoTask C_NoDeed C_Broken C_BadText)) (xcS : _root_.L2.ExcC K C_Shut) (xcN : _root_.L2.ExcC K C_NoRoom) (kdS : Kd15 K C_Shut C_FarError C_Shut C_NoRoom C_BadFrame C_BadWire C_BadService C_BadPlan C_NoHouse C_NoCall C_Ended C_NoTask C_NoDeed C_Broken C_BadText true true true false false false false false false false false false false false false) (kdN : Kd15 K C_NoRoom C_FarError C_Shut C_NoRoom C_BadFrame C_BadWire C_BadService C_BadPlan C_NoHouse C_NoCall C_Ended C_NoTask C_NoDeed C_Broken C_BadText true true false true false false false false false false false false false false false) : FnOk P w K mg base CX0 2 f fd ["_law_caught", "_law_found"] (spW1 C_NoRoom "room") := by
  refine F.ok sc_law_word (fun vs H Q E h => ?_) (fun cdv A outer s H0 vs Q E hr h => ?_)
  · obtain ⟨a, f9, rfl, ha, k⟩ := h
    rfl
  · obtain ⟨a, f9, rfl, ha, k⟩ := h
    have hu := hu_of hr
    have S : Sep H0 [] H0 [(0, a, ExS (.ref C_NoRoom) none a)] := Sep.of0.add 0 ha (fun _ z => nomatch z) (fun z => by cases z) (fun z => by cases z)
    refine ⟨_, pss_cons (ps_if (pt_cmpR op_isN (pv 0) (pe_non) (nomark _)) (pss_one (ps_never)) (pss_nil))
      (pss_cons (ps_set (i := 2) sc_law_word.nd rfl (.inl rfl) (pe_c ckd hr (by decide) (by rfl) pass0 (pa_cons (pv 0) pa_nil)))
      (pss_cons (ps_if (pt_cmpR (op_eqDK K hr.units) (pv 2) (pe_op op_cat (pe_lst1 (pa_cons (pe_bl) (pa_cons (pe_bl) (pa_cons (pe_bl) (pa_cons (pe_bl) pa_nil))))) (pe_op op_rep (pe_lst1 (pa_cons (pe_bl) pa_nil)) (pe_int))) (nomark _)) (pss_one (ps_never)) (pss_nil))
      (pss_one (ps_ret (pe_ifExp (pt_cmpR (op_eqDK K hr.units) (pv 2) (pe_op op_cat (pe_lst1 (pa_cons (pe_bl) (pa_cons (pe_bl) (pa_cons (pe_bl) (pa_cons (pe_bl) pa_nil))))) (pe_op op_rep (pe_lst1 (pa_cons (pe_bl) pa_nil)) (pe_int))) (nomark _)) (pe_str) (pe_never)))))), ?_⟩
    rw [show start ["_law_caught", "_law_found", "_law_kinds_here"] [V.ref a, f9] = [some (V.ref a), some (f9), none] from rfl]
    try dsimp only [tMethS1, tMethKS1, WE, tSeq, tAsg, gName, tOp, tUn, tCB, tCons, tNil, tCall, tMethK1, tCallK1, tPar3, tRet, tRetN, tDrop, tTest, tB, tC, tNext, tAugS, tAug, sFld1, sFldAug1, tMeth1, tMake, tMakeK1, tSl, tPart, tNoPart, sDPut1, tDPop, tBM, tBM0, tPar, gSub, tChain, tNot, tNotV, tDG1, tDG2, tDNewT1, iKeys1, iEnum1, iList1, iTup1, iRng1, iRng2, List.set_cons_zero, List.set_cons_succ]
    refine x_if ?_
    try dsimp only [tMethS1, tMethKS1, WE, tSeq, tAsg, gName, tOp, tUn, tCB, tCons, tNil, tCall, tMethK1, tCallK1, tPar3, tRet, tRetN, tDrop, tTest, tB, tC, tNext, tAugS, tAug, sFld1, sFldAug1, tMeth1, tMake, tMakeK1, tSl, tPart, tNoPart, sDPut1, tDPop, tBM, tBM0, tPar, gSub, tChain, tNot, tNotV, tDG1, tDG2, tDNewT1, iKeys1, iEnum1, iList1, iTup1, iRng1, iRng2, List.set_cons_zero, List.set_cons_succ]
    refine x_var (by exact rfl) ?_
    refine ⟨rfl, ?_⟩
    refine ⟨_, rfl, ?_⟩
    refine ited (fun h => nomatch h) (fun c1 => ?_)
    try dsimp only [tMethS1, tMethKS1, WE, tSeq, tAsg, gName, tOp, tUn, tCB, tCons, tNil, tCall, tMethK1, tCallK1, tPar3, tRet, tRetN, tDrop, tTest, tB, tC, tNext, tAugS, tAug, sFld1, sFldAug1, tMeth1, tMake, tMakeK1, tSl, tPart, tNoPart, sDPut1, tDPop, tBM, tBM0, tPar, gSub, tChain, tNot, tNotV, tDG1, tDG2, tDNewT1, iKeys1, iEnum1, iList1, iTup1, iRng1, iRng2, List.set_cons_zero, List.set_cons_succ]
    refine x_var (by exact rfl) ?_
    refine ⟨_, _, true, true, false, true, false, false, false, false, false, false, false, false, false, false, false, rfl, S.get 0 rfl, xcN, kdN, fun kr H S9 => ?_⟩
    have S := S.callN S9 (fun c hc => by rw [List.mem_singleton.mp hc])
    rw [List.singleton_append] at S
    try dsimp only [tMethS1, tMethKS1, WE, tSeq, tAsg, gName, tOp, tUn, tCB, tCons, tNil, tCall, tMethK1, tCallK1, tPar3, tRet, tRetN, tDrop, tTest, tB, tC, tNext, tAugS, tAug, sFld1, sFldAug1, tMeth1, tMake, tMakeK1, tSl, tPart, tNoPart, sDPut1, tDPop, tBM, tBM0, tPar, gSub, tChain, tNot, tNotV, tDG1, tDG2, tDNewT1, iKeys1, iEnum1, iList1, iTup1, iRng1, iRng2, List.set_cons_zero, List.set_cons_succ]
    refine x_if ?_
    try dsimp only [tMethS1, tMethKS1, WE, tSeq, tAsg, gName, tOp, tUn, tCB, tCons, tNil, tCall, tMethK1, tCallK1, tPar3, tRet, tRetN, tDrop, tTest, tB, tC, tNext, tAugS, tAug, sFld1, sFldAug1, tMeth1, tMake, tMakeK1, tSl, tPart, tNoPart, sDPut1, tDPop, tBM, tBM0, tPar, gSub, tChain, tNot, tNotV, tDG1, tDG2, tDNewT1, iKeys1, iEnum1, iList1, iTup1, iRng1, iRng2, List.set_cons_zero, List.set_cons_succ]
    refine x_var (by exact rfl) ?_
    refine x_lst S (by exact Nat.le_of_ble_eq_true rfl) (fun L1 H S => ?_)
    refine x_lst S (by exact Nat.le_of_ble_eq_true rfl) (fun L2 H S => ?_)
    refine x_rep S 0 (by exact rfl) (by decide) (by decide) (by exact Nat.le_of_ble_eq_true (by exact rfl)) (fun rp1 H S => ?_)
    refine x_cat S 2 0 (by exact rfl) (by exact rfl) (by exact Nat.le_of_ble_eq_true (by exact rfl)) (fun ct1 H S => ?_)
    refine x_eqB (ps := [true, true, false, true, false, false, false, false, false, false, false, false, false, false, false]) (qs := [true, true, true, false, false, false, false, false, false, false, false, false, false, false, false]) S 4 0 (by exact (by exact rfl)) (by exact (by exact rfl)) (by decide : _ = false) ?_
    refine ⟨_, rfl, ?_⟩
    refine iteF ?_
    try dsimp only [tMethS1, tMethKS1, WE, tSeq, tAsg, gName, tOp, tUn, tCB, tCons, tNil, tCall, tMethK1, tCallK1, tPar3, tRet, tRetN, tDrop, tTest, tB, tC, tNext, tAugS, tAug, sFld1, sFldAug1, tMeth1, tMake, tMakeK1, tSl, tPart, tNoPart, sDPut1, tDPop, tBM, tBM0, tPar, gSub, tChain, tNot, tNotV, tDG1, tDG2, tDNewT1, iKeys1, iEnum1, iList1, iTup1, iRng1, iRng2, List.set_cons_zero, List.set_cons_succ]
    refine x_ifE ?_
    try dsimp only [tMethS1, tMethKS1, WE, tSeq, tAsg, gName, tOp, tUn, tCB, tCons, tNil, tCall, tMethK1, tCallK1, tPar3, tRet, tRetN, tDrop, tTest, tB, tC, tNext, tAugS, tAug, sFld1, sFldAug1, tMeth1, tMake, tMakeK1, tSl, tPart, tNoPart, sDPut1, tDPop, tBM, tBM0, tPar, gSub, tChain, tNot, tNotV, tDG1, tDG2, tDNewT1, iKeys1, iEnum1, iList1, iTup1, iRng1, iRng2, List.set_cons_zero, List.set_cons_succ]
    refine x_var (by exact rfl) ?_
    refine x_lst S (by exact Nat.le_of_ble_eq_true rfl) (fun L3 H S => ?_)
    refine x_lst S (by exact Nat.le_of_ble_eq_true rfl) (fun L4 H S => ?_)
    refine x_rep S 0 (by exact rfl) (by decide) (by decide) (by exact Nat.le_of_ble_eq_true (by exact rfl)) (fun rp2 H S => ?_)
    refine x_cat S 2 0 (by exact rfl) (by exact rfl) (by exact Nat.le_of_ble_eq_true (by exact rfl)) (fun ct2 H S => ?_)
    refine x_eqB (ps := [true, true, false, true, false, false, false, false, false, false, false, false, false, false, false]) (qs := [true, true, false, true, false, false, false, false, false, false, false, false, false, false, false]) S 8 0 (by exact (by exact rfl)) (by exact (by exact rfl)) (by decide : _ = true) ?_
    refine ⟨_, rfl, ?_⟩
    refine iteT ?_
    exact k _ (fun b o e => S.fr b o e (by simp))
theorem ok_law_word {f : Addr} {fd : FuncData} {C_FarError C_Shut C_NoRoom C_BadFrame C_BadWire C_BadService C_BadPlan C_NoHouse C_NoCall C_Ended C_NoTask C_NoDeed C_Broken C_BadText : Addr} (F : L2.Fun K "_law_word" "_law_word" s_law_word f fd) (ckd : Cal P w K mg base CX0 1 "_law_kinds" (spKinds K C_FarError C_Shut C_NoRoom C_BadFrame C_BadWire C_BadService C_BadPlan C_NoHouse C_NoCall C_Ended C_NoTask C_NoDeed C_Broken C_BadText)) (xcS : _root_.L2.ExcC K C_Shut) (xcN : _root_.L2.ExcC K C_NoRoom) (kdS : Kd15 K C_Shut C_FarError C_Shut C_NoRoom C_BadFrame C_BadWire C_BadService C_BadPlan C_NoHouse C_NoCall C_Ended C_NoTask C_NoDeed C_Broken C_BadText true true true false false false false false false false false false false false false) (kdN : Kd15 K C_NoRoom C_FarError C_Shut C_NoRoom C_BadFrame C_BadWire C_BadService C_BadPlan C_NoHouse C_NoCall C_Ended C_NoTask C_NoDeed C_Broken C_BadText true true false true false false false false false false false false false false false) : FnOk P w K mg base CX0 2 f fd ["_law_caught", "_law_found"] (spWord C_Shut C_NoRoom) :=
  FnOk.or (ok_law_word0 F ckd xcS xcN kdS kdN) (FnOk.or (ok_law_wordS F ckd xcS xcN kdS kdN) (ok_law_wordR F ckd xcS xcN kdS kdN))
end
end G

set_option linter.all false
set_option maxRecDepth 100000
set_option maxHeartbeats 4000000
namespace G
open PySem PySem.Spec PyProof.Rows L2

def spLPut (C : Addr) : Sp := fun vs H Q _ => ∃ (gp dx pl : Addr) (b h : Int) (c : Bool) (xs : List V) (v : V), vs = [.ref gp, v] ∧ Sep H [pl] H [(0, gp, .ins C dx (F_Giver b h pl c)), (1, pl, .lst xs)] ∧ xs.length < 100000 ∧
  (c = true → ∀ H' : Hp, (∀ b o, H b = some o → H' b = some o) → Q (.str "shut") H') ∧ (c = false → ¬ h + xs.length < b → ∀ H' : Hp, (∀ b o, H b = some o → H' b = some o) → Q (.str "room") H') ∧
  (c = false → h + xs.length < b → ∀ H' : Hp, H' pl = some (.lst (xs ++ [v])) → (∀ b o, H b = some o → b ≠ pl → H' b = some o) → Q (.str "none") H')
def spLShut (C : Addr) : Sp := fun vs H Q _ => ∃ (gp dx pl : Addr) (b h : Int) (c : Bool), vs = [.ref gp] ∧ Sep H [gp] H [(1, gp, .ins C dx (F_Giver b h pl c))] ∧
  (c = true → ∀ H' : Hp, (∀ b o, H b = some o → H' b = some o) → Q (.str "shut") H') ∧
  (c = false → ∀ H' : Hp, H' gp = some (.ins C dx (F_Giver b h pl true)) → (∀ b o, H b = some o → b ≠ gp → H' b = some o) → Q (.str "none") H')
theorem keep_lst {H0 H : Hp} {ft : List Addr} {l : List Cell} {pl : Addr} {o : HO} {t : Nat} (S : Sep H0 ft H l) (h0 : H0 pl = some o) (hf : ft = [pl]) (n : Nat) (h : l[n]? = some (t, pl, o)) : ∀ b u, H0 b = some u → H b = some u := fun b u e => by
  by_cases hb : b = pl
  · rw [hb] at e ⊢; rw [h0] at e; cases e; exact S.get n h
  · exact S.fr b u e (by rw [hf]; simp [hb])
section
variable {P : Program} {w : World} {K : PySem.W.Frag} {mg : Str → Option Value} {base : Heap}
abbrev s_law_put : Stmt := (topS 26)
theorem sc_law_put : FnScope ["_law_giver", "_law_piece", "_law_caught", "_law_found", "_law_e"] ["_law_giver", "_law_piece"] (defScope s_law_put) := ⟨rfl, rfl, rfl, by decide +kernel, rfl, by decide +kernel, by decide +kernel⟩
theorem ok_law_put {f : Addr} {fd : FuncData} {C C_FarError C_Shut C_NoRoom : Addr} (F : L2.Fun K "_law_put" "_law_put" s_law_put f fd) (gF : mg "FarError" = some (.ref C_FarError)) (xFS : PySem.W.exmOne K (.ref C_Shut) (.ref C_FarError) = some true) (xFN : PySem.W.exmOne K (.ref C_NoRoom) (.ref C_FarError) = some true) (cwd : Cal P w K mg base CX0 2 "_law_word" (spWord C_Shut C_NoRoom)) (mput : MetK P w K mg base (L2.CX P w) 2 C "put" ["value"] [0] (spPutX2 C C_Shut C_NoRoom)) : FnOk P w K mg base CX0 3 f fd ["_law_giver", "_law_piece"] (spLPut C) := by
  refine F.ok sc_law_put (fun vs H Q E h => ?_) (fun cdv A outer s H0 vs Q E hr h => ?_)
  · obtain ⟨gp, dx, pl, b, h, c, xs, v, rfl, S, hl, ksh, kro, kok⟩ := h
    rfl
  · obtain ⟨gp, dx, pl, b, h, c, xs, v, rfl, S, hl, ksh, kro, kok⟩ := h
    have hu := hu_of hr
    have S0 := S
    refine ⟨_, pss_cons (ps_asg (pe_tup1 (pa_cons (pe_non) (pa_cons (pe_str) pa_nil))) (pg_tup rfl (pgs_cons (pg_name (i := 2) sc_law_put.nd rfl (.inl rfl)) (pgs_cons (pg_name (i := 3) sc_law_put.nd rfl (.inl rfl)) (pgs_nil)))))
      (pss_cons (ps_try_keep rfl rfl sc_law_put.nd (i := 4) rfl rfl ⟨rfl, by decide, Or.inl gF⟩ takes0 rfl (fun W pn xe tk _ => pss_one (ps_set (i := 3) sc_law_put.nd rfl (.inl rfl) (pe_mtKS mput hr (by decide) (fun σ => passAt tk σ) (pv 0) (pk_cons (pv 1) pk_nil)))) (fun a oe cls d pn hz hf => pss_one (ps_set (i := 2) sc_law_put.nd rfl (.inl rfl) (pv 4))))
      (pss_one (ps_ret (pe_c cwd hr (by decide) (by rfl) pass0 (pa_cons (pv 2) (pa_cons (pv 3) pa_nil)))))), ?_⟩
    rw [show start ["_law_giver", "_law_piece", "_law_caught", "_law_found", "_law_e"] [V.ref gp, v] = [some (V.ref gp), some (v), none, none, none] from rfl]
    try dsimp only [tMethS1, tMethKS1, WE, tSeq, tAsg, gName, tOp, tUn, tCB, tCons, tNil, tCall, tMethK1, tCallK1, tPar3, tRet, tRetN, tDrop, tTest, tB, tC, tNext, tAugS, tAug, sFld1, sFldAug1, tMeth1, tMake, tMakeK1, tSl, tPart, tNoPart, sDPut1, tDPop, tBM, tBM0, tPar, gSub, tChain, tNot, tNotV, tDG1, tDG2, tDNewT1, iKeys1, iEnum1, iList1, iTup1, iRng1, iRng2, List.set_cons_zero, List.set_cons_succ]
    refine x_tup S (by exact Nat.le_of_ble_eq_true rfl) (fun U1 H S => ?_)
    refine ⟨_, _, rfl, S.st 0 rfl, rfl, _, _, rfl, _, _, rfl, rfl, ?_⟩
    try dsimp only [tMethS1, tMethKS1, WE, tSeq, tAsg, gName, tOp, tUn, tCB, tCons, tNil, tCall, tMethK1, tCallK1, tPar3, tRet, tRetN, tDrop, tTest, tB, tC, tNext, tAugS, tAug, sFld1, sFldAug1, tMeth1, tMake, tMakeK1, tSl, tPart, tNoPart, sDPut1, tDPop, tBM, tBM0, tPar, gSub, tChain, tNot, tNotV, tDG1, tDG2, tDNewT1, iKeys1, iEnum1, iList1, iTup1, iRng1, iRng2, List.set_cons_zero, List.set_cons_succ]
    try dsimp only [tMethS1, tMethKS1, WE, tSeq, tAsg, gName, tOp, tUn, tCB, tCons, tNil, tCall, tMethK1, tCallK1, tPar3, tRet, tRetN, tDrop, tTest, tB, tC, tNext, tAugS, tAug, sFld1, sFldAug1, tMeth1, tMake, tMakeK1, tSl, tPart, tNoPart, sDPut1, tDPop, tBM, tBM0, tPar, gSub, tChain, tNot, tNotV, tDG1, tDG2, tDNewT1, iKeys1, iEnum1, iList1, iTup1, iRng1, iRng2, List.set_cons_zero, List.set_cons_succ]
    refine x_var (by exact rfl) ?_
    refine x_meth S 1 (by exact rfl) nk_Giver_put ?_
    refine x_var (by exact rfl) ?_
    refine ⟨rfl, ?_⟩
    refine c_putX2 S 1 2 (by exact rfl) (by exact rfl) hl (fun hc hb H S => ?_) (fun hc => ?_) (fun hc hb => ?_)
    · simp only [List.set_cons_zero, List.set_cons_succ] at S
      try dsimp only [tMethS1, tMethKS1, WE, tSeq, tAsg, gName, tOp, tUn, tCB, tCons, tNil, tCall, tMethK1, tCallK1, tPar3, tRet, tRetN, tDrop, tTest, tB, tC, tNext, tAugS, tAug, sFld1, sFldAug1, tMeth1, tMake, tMakeK1, tSl, tPart, tNoPart, sDPut1, tDPop, tBM, tBM0, tPar, gSub, tChain, tNot, tNotV, tDG1, tDG2, tDNewT1, iKeys1, iEnum1, iList1, iTup1, iRng1, iRng2, List.set_cons_zero, List.set_cons_succ]
      refine x_var (by exact rfl) ?_
      refine x_var (by exact rfl) ?_
      refine .inl ⟨rfl, ?_⟩
      exact kok hc hb _ (S.get 2 rfl) S.out1
    · refine ⟨true, xFS, fun _ ax1 hax1 => ?_, fun q => Bool.noConfusion q⟩
      try dsimp only [tMethS1, tMethKS1, WE, tSeq, tAsg, gName, tOp, tUn, tCB, tCons, tNil, tCall, tMethK1, tCallK1, tPar3, tRet, tRetN, tDrop, tTest, tB, tC, tNext, tAugS, tAug, sFld1, sFldAug1, tMeth1, tMake, tMakeK1, tSl, tPart, tNoPart, sDPut1, tDPop, tBM, tBM0, tPar, gSub, tChain, tNot, tNotV, tDG1, tDG2, tDNewT1, iKeys1, iEnum1, iList1, iTup1, iRng1, iRng2, List.set_cons_zero, List.set_cons_succ]
      refine x_var (by exact rfl) ?_
      intro hnax1
      have S := S.new hnax1 (ExS (.ref C_Shut) none ax1)
      try dsimp only [tMethS1, tMethKS1, WE, tSeq, tAsg, gName, tOp, tUn, tCB, tCons, tNil, tCall, tMethK1, tCallK1, tPar3, tRet, tRetN, tDrop, tTest, tB, tC, tNext, tAugS, tAug, sFld1, sFldAug1, tMeth1, tMake, tMakeK1, tSl, tPart, tNoPart, sDPut1, tDPop, tBM, tBM0, tPar, gSub, tChain, tNot, tNotV, tDG1, tDG2, tDNewT1, iKeys1, iEnum1, iList1, iTup1, iRng1, iRng2, List.set_cons_zero, List.set_cons_succ]
      try dsimp only [tMethS1, tMethKS1, WE, tSeq, tAsg, gName, tOp, tUn, tCB, tCons, tNil, tCall, tMethK1, tCallK1, tPar3, tRet, tRetN, tDrop, tTest, tB, tC, tNext, tAugS, tAug, sFld1, sFldAug1, tMeth1, tMake, tMakeK1, tSl, tPart, tNoPart, sDPut1, tDPop, tBM, tBM0, tPar, gSub, tChain, tNot, tNotV, tDG1, tDG2, tDNewT1, iKeys1, iEnum1, iList1, iTup1, iRng1, iRng2, List.set_cons_zero, List.set_cons_succ]
      refine x_var (by exact rfl) ?_
      refine x_var (by exact rfl) ?_
      refine .inr (.inl ⟨_, _, rfl, S.get 0 rfl, fun H F => ?_⟩)
      have S := S.stay F
      exact ksh hc _ (keep_lst S (S0.get 1 rfl) rfl 3 rfl)
    · refine ⟨true, xFN, fun _ ax2 hax2 => ?_, fun q => Bool.noConfusion q⟩
      try dsimp only [tMethS1, tMethKS1, WE, tSeq, tAsg, gName, tOp, tUn, tCB, tCons, tNil, tCall, tMethK1, tCallK1, tPar3, tRet, tRetN, tDrop, tTest, tB, tC, tNext, tAugS, tAug, sFld1, sFldAug1, tMeth1, tMake, tMakeK1, tSl, tPart, tNoPart, sDPut1, tDPop, tBM, tBM0, tPar, gSub, tChain, tNot, tNotV, tDG1, tDG2, tDNewT1, iKeys1, iEnum1, iList1, iTup1, iRng1, iRng2, List.set_cons_zero, List.set_cons_succ]
      refine x_var (by exact rfl) ?_
      intro hnax2
      have S := S.new hnax2 (ExS (.ref C_NoRoom) none ax2)
      try dsimp only [tMethS1, tMethKS1, WE, tSeq, tAsg, gName, tOp, tUn, tCB, tCons, tNil, tCall, tMethK1, tCallK1, tPar3, tRet, tRetN, tDrop, tTest, tB, tC, tNext, tAugS, tAug, sFld1, sFldAug1, tMeth1, tMake, tMakeK1, tSl, tPart, tNoPart, sDPut1, tDPop, tBM, tBM0, tPar, gSub, tChain, tNot, tNotV, tDG1, tDG2, tDNewT1, iKeys1, iEnum1, iList1, iTup1, iRng1, iRng2, List.set_cons_zero, List.set_cons_succ]
      try dsimp only [tMethS1, tMethKS1, WE, tSeq, tAsg, gName, tOp, tUn, tCB, tCons, tNil, tCall, tMethK1, tCallK1, tPar3, tRet, tRetN, tDrop, tTest, tB, tC, tNext, tAugS, tAug, sFld1, sFldAug1, tMeth1, tMake, tMakeK1, tSl, tPart, tNoPart, sDPut1, tDPop, tBM, tBM0, tPar, gSub, tChain, tNot, tNotV, tDG1, tDG2, tDNewT1, iKeys1, iEnum1, iList1, iTup1, iRng1, iRng2, List.set_cons_zero, List.set_cons_succ]
      refine x_var (by exact rfl) ?_
      refine x_var (by exact rfl) ?_
      refine .inr (.inr ⟨_, _, rfl, S.get 0 rfl, fun H F => ?_⟩)
      have S := S.stay F
      exact kro hc hb _ (keep_lst S (S0.get 1 rfl) rfl 3 rfl)
abbrev s_law_shut : Stmt := (topS 27)
theorem sc_law_shut : FnScope ["_law_giver", "_law_caught", "_law_found", "_law_e"] ["_law_giver"] (defScope s_law_shut) := ⟨rfl, rfl, rfl, by decide +kernel, rfl, by decide +kernel, by decide +kernel⟩
theorem ok_law_shut {f : Addr} {fd : FuncData} {C C_FarError C_Shut C_NoRoom : Addr} (F : L2.Fun K "_law_shut" "_law_shut" s_law_shut f fd) (gF : mg "FarError" = some (.ref C_FarError)) (xFS : PySem.W.exmOne K (.ref C_Shut) (.ref C_FarError) = some true) (xFN : PySem.W.exmOne K (.ref C_NoRoom) (.ref C_FarError) = some true) (cwd : Cal P w K mg base CX0 2 "_law_word" (spWord C_Shut C_NoRoom)) (mshut : Met P w K mg base (L2.CX P w) 2 C "shut" (spShutX C C_Shut)) : FnOk P w K mg base CX0 3 f fd ["_law_giver"] (spLShut C) := by
  refine F.ok sc_law_shut (fun vs H Q E h => ?_) (fun cdv A outer s H0 vs Q E hr h => ?_)
  · obtain ⟨gp, dx, pl, b, h, c, rfl, S, ksh, kok⟩ := h
    rfl
  · obtain ⟨gp, dx, pl, b, h, c, rfl, S, ksh, kok⟩ := h
    have hu := hu_of hr
    have S0 := S
    refine ⟨_, pss_cons (ps_asg (pe_tup1 (pa_cons (pe_non) (pa_cons (pe_str) pa_nil))) (pg_tup rfl (pgs_cons (pg_name (i := 1) sc_law_shut.nd rfl (.inl rfl)) (pgs_cons (pg_name (i := 2) sc_law_shut.nd rfl (.inl rfl)) (pgs_nil)))))
      (pss_cons (ps_try_keep rfl rfl sc_law_shut.nd (i := 3) rfl rfl ⟨rfl, by decide, Or.inl gF⟩ takes0 rfl (fun W pn xe tk _ => pss_one (ps_set (i := 2) sc_law_shut.nd rfl (.inl rfl) (pe_mtS0 mshut (hr.mono (by decide)) (fun σ => passAt tk σ) (pv 0)))) (fun a oe cls d pn hz hf => pss_one (ps_set (i := 1) sc_law_shut.nd rfl (.inl rfl) (pv 3))))
      (pss_one (ps_ret (pe_c cwd hr (by decide) (by rfl) pass0 (pa_cons (pv 1) (pa_cons (pv 2) pa_nil)))))), ?_⟩
    rw [show start ["_law_giver", "_law_caught", "_law_found", "_law_e"] [V.ref gp] = [some (V.ref gp), none, none, none] from rfl]
    try dsimp only [tMethS1, tMethKS1, WE, tSeq, tAsg, gName, tOp, tUn, tCB, tCons, tNil, tCall, tMethK1, tCallK1, tPar3, tRet, tRetN, tDrop, tTest, tB, tC, tNext, tAugS, tAug, sFld1, sFldAug1, tMeth1, tMake, tMakeK1, tSl, tPart, tNoPart, sDPut1, tDPop, tBM, tBM0, tPar, gSub, tChain, tNot, tNotV, tDG1, tDG2, tDNewT1, iKeys1, iEnum1, iList1, iTup1, iRng1, iRng2, List.set_cons_zero, List.set_cons_succ]
    refine x_tup S (by exact Nat.le_of_ble_eq_true rfl) (fun U1 H S => ?_)
    refine ⟨_, _, rfl, S.st 0 rfl, rfl, _, _, rfl, _, _, rfl, rfl, ?_⟩
    try dsimp only [tMethS1, tMethKS1, WE, tSeq, tAsg, gName, tOp, tUn, tCB, tCons, tNil, tCall, tMethK1, tCallK1, tPar3, tRet, tRetN, tDrop, tTest, tB, tC, tNext, tAugS, tAug, sFld1, sFldAug1, tMeth1, tMake, tMakeK1, tSl, tPart, tNoPart, sDPut1, tDPop, tBM, tBM0, tPar, gSub, tChain, tNot, tNotV, tDG1, tDG2, tDNewT1, iKeys1, iEnum1, iList1, iTup1, iRng1, iRng2, List.set_cons_zero, List.set_cons_succ]
    try dsimp only [tMethS1, tMethKS1, WE, tSeq, tAsg, gName, tOp, tUn, tCB, tCons, tNil, tCall, tMethK1, tCallK1, tPar3, tRet, tRetN, tDrop, tTest, tB, tC, tNext, tAugS, tAug, sFld1, sFldAug1, tMeth1, tMake, tMakeK1, tSl, tPart, tNoPart, sDPut1, tDPop, tBM, tBM0, tPar, gSub, tChain, tNot, tNotV, tDG1, tDG2, tDNewT1, iKeys1, iEnum1, iList1, iTup1, iRng1, iRng2, List.set_cons_zero, List.set_cons_succ]
    refine x_var (by exact rfl) ?_
    refine x_meth S 1 (by exact rfl) nk_Giver_shut ?_
    refine c_shutX S 1 (by exact rfl) (fun hc H S => ?_) (fun hc => ?_)
    · simp only [List.set_cons_zero, List.set_cons_succ] at S
      try dsimp only [tMethS1, tMethKS1, WE, tSeq, tAsg, gName, tOp, tUn, tCB, tCons, tNil, tCall, tMethK1, tCallK1, tPar3, tRet, tRetN, tDrop, tTest, tB, tC, tNext, tAugS, tAug, sFld1, sFldAug1, tMeth1, tMake, tMakeK1, tSl, tPart, tNoPart, sDPut1, tDPop, tBM, tBM0, tPar, gSub, tChain, tNot, tNotV, tDG1, tDG2, tDNewT1, iKeys1, iEnum1, iList1, iTup1, iRng1, iRng2, List.set_cons_zero, List.set_cons_succ]
      refine x_var (by exact rfl) ?_
      refine x_var (by exact rfl) ?_
      refine .inl ⟨rfl, ?_⟩
      exact kok hc _ (S.get 1 rfl) S.out1
    · refine ⟨true, xFS, fun _ ax1 hax1 => ?_, fun q => Bool.noConfusion q⟩
      try dsimp only [tMethS1, tMethKS1, WE, tSeq, tAsg, gName, tOp, tUn, tCB, tCons, tNil, tCall, tMethK1, tCallK1, tPar3, tRet, tRetN, tDrop, tTest, tB, tC, tNext, tAugS, tAug, sFld1, sFldAug1, tMeth1, tMake, tMakeK1, tSl, tPart, tNoPart, sDPut1, tDPop, tBM, tBM0, tPar, gSub, tChain, tNot, tNotV, tDG1, tDG2, tDNewT1, iKeys1, iEnum1, iList1, iTup1, iRng1, iRng2, List.set_cons_zero, List.set_cons_succ]
      refine x_var (by exact rfl) ?_
      intro hnax1
      have S := S.new hnax1 (ExS (.ref C_Shut) none ax1)
      try dsimp only [tMethS1, tMethKS1, WE, tSeq, tAsg, gName, tOp, tUn, tCB, tCons, tNil, tCall, tMethK1, tCallK1, tPar3, tRet, tRetN, tDrop, tTest, tB, tC, tNext, tAugS, tAug, sFld1, sFldAug1, tMeth1, tMake, tMakeK1, tSl, tPart, tNoPart, sDPut1, tDPop, tBM, tBM0, tPar, gSub, tChain, tNot, tNotV, tDG1, tDG2, tDNewT1, iKeys1, iEnum1, iList1, iTup1, iRng1, iRng2, List.set_cons_zero, List.set_cons_succ]
      try dsimp only [tMethS1, tMethKS1, WE, tSeq, tAsg, gName, tOp, tUn, tCB, tCons, tNil, tCall, tMethK1, tCallK1, tPar3, tRet, tRetN, tDrop, tTest, tB, tC, tNext, tAugS, tAug, sFld1, sFldAug1, tMeth1, tMake, tMakeK1, tSl, tPart, tNoPart, sDPut1, tDPop, tBM, tBM0, tPar, gSub, tChain, tNot, tNotV, tDG1, tDG2, tDNewT1, iKeys1, iEnum1, iList1, iTup1, iRng1, iRng2, List.set_cons_zero, List.set_cons_succ]
      refine x_var (by exact rfl) ?_
      refine x_var (by exact rfl) ?_
      refine .inr (.inl ⟨_, _, rfl, S.get 0 rfl, fun H F => ?_⟩)
      have S := S.stay F
      exact ksh hc _ (keep_lst S (S0.get 0 rfl) rfl 2 rfl)
end
end G

set_option linter.all false
set_option maxRecDepth 100000
set_option maxHeartbeats 4000000
namespace G
open PySem PySem.Spec PyProof.Rows L2

theorem WIn.mono {L L' : List Cell} {h : Int} {xs vs : List V} (w : WIn L h xs vs) (hL : ∀ c ∈ L, c ∈ L') : WIn L' h xs vs := ⟨w.1, fun i v e => by
  obtain ⟨a, x, h1, h2, h3⟩ := w.2 i v e
  exact ⟨a, x, h1, h2, hL _ h3⟩⟩
/-- the pairs of a place, from h on, and a piece -/
def zp : Int → List Int → List (Int × Int)
  | _, [] => []
  | h, n :: r => (h, n) :: zp (h + 1) r
theorem WIn.prs {L : List Cell} {H : Hp} : ∀ {ns : List Int} {h : Int} {vs : List V}, WIn L h (ns.map V.int) vs → (∀ c ∈ L, H c.2.1 = some c.2.2) → PrsAt H vs (zp h ns)
  | [], h, [], _, _ => .nil
  | [], h, v :: r, w, _ => by have := w.1; cases this
  | n :: r, h, [], w, _ => by have := w.1; cases this
  | n :: r, h, v :: vs, w, hL => by
    obtain ⟨a, x, e1, e2, e3⟩ := w.2 0 v rfl
    have e2 : some (V.int n) = some x := e2
    cases e2
    have e3' := hL _ e3
    refine .cons ⟨a, e1, ?_⟩ (WIn.prs (h := h + 1) ⟨by have := w.1; simpa using this, fun i u hi => ?_⟩ hL)
    · have z : h + ((0 : Nat) : Int) = h := by omega
      rw [z] at e3'
      exact e3'
    · obtain ⟨b, y, f1, f2, f3⟩ := w.2 (i + 1) u hi
      refine ⟨b, y, f1, f2, ?_⟩
      have z : h + ((i + 1 : Nat) : Int) = h + 1 + (i : Nat) := by omega
      rw [z] at f3
      exact f3
theorem x_neW0 {K : PySem.W.Frag} {H0 H : Hp} {ft : List Addr} {l : List Cell} {t t' : Nat} {p q : Addr} {xs ys : List V} {ps : List (Int × Int)} {Q : VK} (S : Sep H0 ft H l) (n m : Nat) (h : l[n]? = some (t, p, .lst xs)) (h' : l[m]? = some (t', q, .lst ys)) (hx : PrsAt H xs ps) (hy : PrsAt H ys ps) (k : Q (.bl false) H) : rNeD K (.ref p) (.ref q) H Q :=
  x_neWW S n m h h' hx hy (by rw [decide_eq_true rfl]; exact k)
theorem c_isE {H : Hp} {a b : Int} {Q : VK} {E : XK} (e : a = b) (q : Q (.bl true) H) : spIs [.int a, .int b] H Q E := ⟨a, b, rfl, by rw [e, decide_eq_true rfl]; exact q⟩
theorem c_truthE {H : Hp} {a : Bool} {Q : VK} {E : XK} (q : Q (.bl true) H) : spTruth [.bl a, .bl a] H Q E := ⟨a, a, rfl, by rw [decide_eq_true rfl]; exact q⟩
def spRight9 (C : Addr) : Sp := fun vs H Q _ => ∃ (gp dx pl pc : Addr) (b h : Int) (c : Bool) (ps : List Int), vs = [.ref gp, .ref pc, .int h, .bl c] ∧ Sep H [] H [(0, gp, .ins C dx (F_Giver b h pl c)), (0, pl, .lst ((ps.drop h.toNat).map V.int)), (0, pc, .lst (ps.map V.int))] ∧
  0 ≤ h ∧ h ≤ ps.length ∧ ps.length ≤ 9000 ∧ ∀ H' : Hp, (∀ b o, H b = some o → H' b = some o) → Q (.bl true) H'
section
variable {P : Program} {w : World} {K : PySem.W.Frag} {mg : Str → Option Value} {base : Heap}
abbrev s_law_right : Stmt := (topS 29)
theorem sc_law_right : FnScope ["_law_giver", "_law_pieces", "_law_had", "_law_closed", "_law_due", "_law_turn", "_law_found", "_law_k", "_law_pair"] ["_law_giver", "_law_pieces", "_law_had", "_law_closed"] (defScope s_law_right) := ⟨rfl, rfl, rfl, by decide +kernel, rfl, by decide +kernel, by decide +kernel⟩
theorem ok_law_right {f : Addr} {fd : FuncData} {C : Addr} (F : L2.Fun K "_law_right" "_law_right" s_law_right f fd) (mmany : Met P w K mg base CX0 1 C "many" (spMany C)) (misshut : Met P w K mg base CX0 1 C "is_shut" (spIsShut C)) (mwanted : Met P w K mg base CX0 1 C "wanted" (spWanted C)) (cis : Cal P w K mg base CX0 1 "_law_is" spIs) (ctr : Cal P w K mg base CX0 1 "_law_truth" spTruth) (z_len : mg "len" = none) (z_range : mg "range" = none) (z_isinstance : mg "isinstance" = none) (z_list : mg "list" = none) : FnOk P w K mg base CX0 2 f fd ["_law_giver", "_law_pieces", "_law_had", "_law_closed"] (spRight9 C) := by
  refine F.ok sc_law_right (fun vs H Q E h => ?_) (fun cdv A outer s H0 vs Q E hr h => ?_)
  · obtain ⟨gp, dx, pl, pc, b, h9, c, ps, rfl, S, hh0, hh1, hps, k⟩ := h
    rfl
  · obtain ⟨gp, dx, pl, pc, b, h9, c, ps, rfl, S, hh0, hh1, hps, k⟩ := h
    have hu := hu_of hr
    obtain ⟨h, rfl⟩ : ∃ n : Nat, h9 = (n : Int) := ⟨h9.toNat, by omega⟩
    rw [Int.toNat_natCast] at S
    refine ⟨_, pss_cons (ps_setLc (i := 4) (own := [("_law_k", 7)]) (g := gName 7) rfl sc_law_right.nd rfl rfl (sw_true rfl rfl rfl (by decide +kernel)) (pi_range2 (by rfl) z_range (pa_cons (pv 2) (pa_cons (pe_callB (cl_lenK K) (by rfl) z_len PySem.boot_len (pa_cons (pv 1) pa_nil)) pa_nil))) (blkOk_by (N := ["_law_giver", "_law_pieces", "_law_had", "_law_closed", "_law_due", "_law_turn", "_law_found", "_law_k", "_law_pair"]) (sc := defScope s_law_right) (by decide +kernel)) (fun _ _ _ _ _ => pg_name (i := 7) sc_law_right.nd rfl (Or.inl rfl)) (fun _ _ _ _ _ => pts_nil) (fun _ _ _ _ _ => pe_tup1 (pa_cons (pv 7) (pa_cons (pe_ix (ix_listK K) (pv 1) (pv 7) (fun _ _ => rfl)) pa_nil))))
      (pss_cons (ps_for PassesOwn.never rfl (pi_range1 (by rfl) z_range (pa_cons (pe_int) pa_nil)) (pg_name (i := 5) sc_law_right.nd rfl (.inl rfl)) (pss_cons (ps_set (i := 6) sc_law_right.nd rfl (.inl rfl) (pe_mt0 mwanted hr (by decide) pass0 (pv 0)))
      (pss_cons (ps_if ((pw_or (pt_not (pt_val (pe_callB (cl_isiK K) (by rfl) z_isinstance (by decide +kernel) (pa_cons (pv 6) (pa_cons (pe_bltn (v := .ty "list") (by rfl) z_list (by decide +kernel) rfl) pa_nil))))) (pw_or1 (pt_cmpR (op_neDK K hr.units) (pv 6) (pv 4) (nomark _)))).pt) (pss_one (ps_never)) (pss_nil))
      (pss_cons (ps_if (pt_cmpR (op_neDK K hr.units) (pe_lc (own := [("_law_pair", 8)]) (g := gName 8) rfl sc_law_right.nd (pi_listK K (pv 6)) (blkOk_by (N := ["_law_giver", "_law_pieces", "_law_had", "_law_closed", "_law_due", "_law_turn", "_law_found", "_law_k", "_law_pair"]) (sc := defScope s_law_right) (by decide +kernel)) (fun _ _ _ _ _ => pg_name (i := 8) sc_law_right.nd rfl (.inl rfl)) (fun _ _ _ _ _ => pts_one ((pw_or (pt_not (pt_val (pe_c cis hr (by decide) (by rfl) pass0 (pa_cons (pe_ix (ix_tupK K) (pv 8) (pe_int) (fun _ _ => rfl)) (pa_cons (pe_ix (ix_tupK K) (pv 8) (pe_int) (fun _ _ => rfl)) pa_nil))))) (pw_or1 (pt_not (pt_val (pe_c cis hr (by decide) (by rfl) pass0 (pa_cons (pe_ix (ix_tupK K) (pv 8) (pe_int) (fun _ _ => rfl)) (pa_cons (pe_ix (ix_tupK K) (pv 8) (pe_int) (fun _ _ => rfl)) pa_nil))))))).pt)) (fun _ _ _ _ _ => pe_never)) (pe_lst1 pa_nil) (nomark _)) (pss_one (ps_never)) (pss_nil))
      (pss_cons (ps_expr (pe_bm PySem.F.plainAttrs_list PySem.F.slot_list_append PySem.F.type_list_append mt_append (pv 6) (pa_cons (pe_tup1 (pa_cons (pe_int) (pa_cons (pe_int) pa_nil))) pa_nil)))
      (pss_one (ps_expr (pe_bm0 PySem.F.plainAttrs_list PySem.F.slot_list_reverse PySem.F.type_list_reverse mt_reverse (pv 6)))))))))
      (pss_one (ps_ret (pe_and (pe_c cis hr (by decide) (by rfl) pass0 (pa_cons (pe_mt0 mmany hr (by decide) pass0 (pv 0)) (pa_cons (pe_callB (cl_lenK K) (by rfl) z_len PySem.boot_len (pa_cons (pv 1) pa_nil)) pa_nil))) (pe_one (pe_c ctr hr (by decide) (by rfl) pass0 (pa_cons (pe_mt0 misshut hr (by decide) pass0 (pv 0)) (pa_cons (pv 3) pa_nil)))))))), ?_⟩
    rw [show start ["_law_giver", "_law_pieces", "_law_had", "_law_closed", "_law_due", "_law_turn", "_law_found", "_law_k", "_law_pair"] [V.ref gp, V.ref pc, V.int (h : Nat), V.bl c] = [some (V.ref gp), some (V.ref pc), some (V.int (h : Nat)), some (V.bl c), none, none, none, none, none] from rfl]
    try dsimp only [tMethS1, tMethKS1, WE, tSeq, tAsg, gName, tOp, tUn, tCB, tCons, tNil, tCall, tMethK1, tCallK1, tPar3, tRet, tRetN, tDrop, tTest, tB, tC, tNext, tAugS, tAug, sFld1, sFldAug1, tMeth1, tMake, tMakeK1, tSl, tPart, tNoPart, sDPut1, tDPop, tBM, tBM0, tPar, gSub, tChain, tNot, tNotV, tDG1, tDG2, tDNewT1, iKeys1, iEnum1, iList1, iTup1, iRng1, iRng2, List.set_cons_zero, List.set_cons_succ]
    refine x_lc ?_
    try dsimp only [tMethS1, tMethKS1, tOp, tUn, tCB, tCons, tNil, tCall, tMethK1, tCallK1, tC, tMeth1, tMake, tMakeK1, tSl, tPart, tNoPart, tDPop, tChain, tNotV, tBM, tBM0, tDG1, tDG2, tDNewT1, iKeys1, iEnum1, iList1, iTup1, iRng1, iRng2]
    refine x_var (by exact rfl) ?_
    refine x_var (by exact rfl) ?_
    refine x_lenI S 2 (by exact rfl) ?_
    refine ⟨_, _, rfl, ⟨by omega, by omega, by omega, by omega⟩, ?_⟩
    refine lcR S (fun du1 H S => ⟨fun i H1 => ∃ (ds : List V) (L : List Cell), WIn L h (((ps.drop h).map V.int).take i) ds ∧ Sep H0 [] H1 ((2, du1, .lst ds) :: (0, gp, .ins C dx (F_Giver b (h : Nat) pl c)) :: (0, pl, .lst ((ps.drop h).map V.int)) :: (0, pc, .lst (ps.map V.int)) :: L), ?_, ?_, ?_⟩)
    · exact ⟨[], [], WIn.nil, S.subT 4 [0, 1, 2, 3]⟩
    · rintro i H hi ⟨ds, L, hW, S⟩
      refine ⟨rfl, ?_⟩
      try dsimp only [tMethS1, tMethKS1, WE, wipe, tYes, tSeq, tAsg, gName, tOp, tUn, tCB, tCons, tNil, tCall, tMethK1, tCallK1, tPar3, tRet, tRetN, tDrop, tTest, tB, tC, tNext, tAugS, tAug, sFld1, sFldAug1, tMeth1, tMake, tMakeK1, tSl, tPart, tNoPart, sDPut1, tDPop, tBM, tBM0, tPar, gSub, tChain, tNot, tNotV, tDG1, tDG2, tDNewT1, iKeys1, iEnum1, iList1, iTup1, iRng1, iRng2, List.set_cons_zero, List.set_cons_succ]
      refine iteT ?_
      refine x_var (by exact rfl) ?_
      refine x_var (by exact rfl) ?_
      refine x_var (by exact rfl) ?_
      refine x_ixI S 3 (by exact rfl) (by first | omega | exact Int.emod_nonneg _ (by omega)) (by first | omega | exact Int.emod_lt_of_pos _ (by omega)) (fun v1 hv1 => ?_)
      refine x_tup S (by exact Nat.le_of_ble_eq_true rfl) (fun U1 H S => ?_)
      refine x_lcapp S 1 (by exact rfl) (by have := hW.1; rw [List.length_take, List.length_map, List.length_drop] at this; omega) (fun H S => ?_)
      simp only [List.set_cons_zero, List.set_cons_succ] at S
      have S := S.subT 5 [1, 2, 3, 4, 0]
      have hpx : ((ps.drop h).map V.int)[i]? = some (V.int v1) := by rw [List.getElem?_map, List.getElem?_drop, show h + i = (((h : Nat) : Int) + (i : Nat)).toNat by omega, hv1]; rfl
      refine ⟨ds ++ [V.ref U1], (2, U1, HO.tup [.int ((h : Nat) + (i : Nat)), .int v1]) :: L, ?_, S⟩
      rw [take_snoc hpx]; exact hW.snoc (by rw [List.length_take, List.length_map, List.length_drop]; omega)
    · rintro H ⟨ds, L, hW, S⟩
      rw [show (((ps.length : Nat) : Int) - ((h : Nat) : Int)).toNat = ((ps.drop h).map V.int).length by rw [List.length_map, List.length_drop]; omega, List.take_length] at hW
      try dsimp only [tMethS1, tMethKS1, WE, tSeq, tAsg, gName, tOp, tUn, tCB, tCons, tNil, tCall, tMethK1, tCallK1, tPar3, tRet, tRetN, tDrop, tTest, tB, tC, tNext, tAugS, tAug, sFld1, sFldAug1, tMeth1, tMake, tMakeK1, tSl, tPart, tNoPart, sDPut1, tDPop, tBM, tBM0, tPar, gSub, tChain, tNot, tNotV, tDG1, tDG2, tDNewT1, iKeys1, iEnum1, iList1, iTup1, iRng1, iRng2, List.set_cons_zero, List.set_cons_succ]
      try dsimp only [tMethS1, tMethKS1, WE, tSeq, tAsg, gName, tOp, tUn, tCB, tCons, tNil, tCall, tMethK1, tCallK1, tPar3, tRet, tRetN, tDrop, tTest, tB, tC, tNext, tAugS, tAug, sFld1, sFldAug1, tMeth1, tMake, tMakeK1, tSl, tPart, tNoPart, sDPut1, tDPop, tBM, tBM0, tPar, gSub, tChain, tNot, tNotV, tDG1, tDG2, tDNewT1, iKeys1, iEnum1, iList1, iTup1, iRng1, iRng2, List.set_cons_zero, List.set_cons_succ]
      refine x_for ?_
      try dsimp only [tMethS1, tMethKS1, tOp, tUn, tCB, tCons, tNil, tCall, tMethK1, tCallK1, tC, tMeth1, tMake, tMakeK1, tSl, tPart, tNoPart, tDPop, tChain, tNotV, tBM, tBM0, tDG1, tDG2, tDNewT1, iKeys1, iEnum1, iList1, iTup1, iRng1, iRng2]
      refine ⟨_, rfl, by omega, by omega, ?_⟩
      refine forR (fun j σ H1 => ∃ (L2 : List Cell) (q1 q2 q3 q4 : Option V), σ = [some (.ref gp), some (.ref pc), some (.int (h : Nat)), some (.bl c), some (.ref du1), q1, q2, q3, q4] ∧ WIn L2 h ((ps.drop h).map V.int) ds ∧ Sep H0 [] H1 ((2, du1, .lst ds) :: (0, gp, .ins C dx (F_Giver b (h : Nat) pl c)) :: (0, pl, .lst ((ps.drop h).map V.int)) :: (0, pc, .lst (ps.map V.int)) :: L2)) ?_ ?_ ?_
      · exact ⟨L, _, _, _, _, rfl, hW, S.subT 4 [0, 1, 2, 3]⟩
      · rintro j σ H hi ⟨L2, q1, q2, q3, q4, rfl, hW, S⟩
        try dsimp only [tMethS1, tMethKS1, WE, tSeq, tAsg, gName, tOp, tUn, tCB, tCons, tNil, tCall, tMethK1, tCallK1, tPar3, tRet, tRetN, tDrop, tTest, tB, tC, tNext, tAugS, tAug, sFld1, sFldAug1, tMeth1, tMake, tMakeK1, tSl, tPart, tNoPart, sDPut1, tDPop, tBM, tBM0, tPar, gSub, tChain, tNot, tNotV, tDG1, tDG2, tDNewT1, iKeys1, iEnum1, iList1, iTup1, iRng1, iRng2, List.set_cons_zero, List.set_cons_succ]
        try dsimp only [tMethS1, tMethKS1, WE, tSeq, tAsg, gName, tOp, tUn, tCB, tCons, tNil, tCall, tMethK1, tCallK1, tPar3, tRet, tRetN, tDrop, tTest, tB, tC, tNext, tAugS, tAug, sFld1, sFldAug1, tMeth1, tMake, tMakeK1, tSl, tPart, tNoPart, sDPut1, tDPop, tBM, tBM0, tPar, gSub, tChain, tNot, tNotV, tDG1, tDG2, tDNewT1, iKeys1, iEnum1, iList1, iTup1, iRng1, iRng2, List.set_cons_zero, List.set_cons_succ]
        refine x_var (by exact rfl) ?_
        refine x_meth S 1 (by exact rfl) nk_Giver_wanted ?_
        refine ⟨_, _, _, _, _, _, _, rfl, S.get 1 rfl, S.get 2 rfl, by rw [List.length_map, List.length_drop]; omega, fun wr ws M H hM hWw S9 => ?_⟩
        have S := (S.callN S9 (fun c hc => (List.mem_cons.mp hc).elim (fun e => by rw [e]) (hM c))).tail 4
        have S : Sep H0 [] H ((2, du1, .lst ds) :: (0, gp, .ins C dx (F_Giver b (h : Nat) pl c)) :: (0, pl, .lst ((ps.drop h).map V.int)) :: (0, pc, .lst (ps.map V.int)) :: (2, wr, .lst ws) :: (M ++ L2)) := S
        have hwl := hWw.1
        rw [List.length_map, List.length_drop] at hwl
        have hcM : ∀ c ∈ M, H c.2.1 = some c.2.2 := fun c hc => S.cellT 5 (by exact List.mem_append_left _ hc)
        have hcL : ∀ c ∈ L2, H c.2.1 = some c.2.2 := fun c hc => S.cellT 5 (by exact List.mem_append_right _ hc)
        try dsimp only [tMethS1, tMethKS1, WE, tSeq, tAsg, gName, tOp, tUn, tCB, tCons, tNil, tCall, tMethK1, tCallK1, tPar3, tRet, tRetN, tDrop, tTest, tB, tC, tNext, tAugS, tAug, sFld1, sFldAug1, tMeth1, tMake, tMakeK1, tSl, tPart, tNoPart, sDPut1, tDPop, tBM, tBM0, tPar, gSub, tChain, tNot, tNotV, tDG1, tDG2, tDNewT1, iKeys1, iEnum1, iList1, iTup1, iRng1, iRng2, List.set_cons_zero, List.set_cons_succ]
        refine x_if ?_
        try dsimp only [tMethS1, tMethKS1, WE, tSeq, tAsg, gName, tOp, tUn, tCB, tCons, tNil, tCall, tMethK1, tCallK1, tPar3, tRet, tRetN, tDrop, tTest, tB, tC, tNext, tAugS, tAug, sFld1, sFldAug1, tMeth1, tMake, tMakeK1, tSl, tPart, tNoPart, sDPut1, tDPop, tBM, tBM0, tPar, gSub, tChain, tNot, tNotV, tDG1, tDG2, tDNewT1, iKeys1, iEnum1, iList1, iTup1, iRng1, iRng2, List.set_cons_zero, List.set_cons_succ]
        refine x_or ?_
        try dsimp only [tMethS1, tMethKS1, WE, tSeq, tAsg, gName, tOp, tUn, tCB, tCons, tNil, tCall, tMethK1, tCallK1, tPar3, tRet, tRetN, tDrop, tTest, tB, tC, tNext, tAugS, tAug, sFld1, sFldAug1, tMeth1, tMake, tMakeK1, tSl, tPart, tNoPart, sDPut1, tDPop, tBM, tBM0, tPar, gSub, tChain, tNot, tNotV, tDG1, tDG2, tDNewT1, iKeys1, iEnum1, iList1, iTup1, iRng1, iRng2, List.set_cons_zero, List.set_cons_succ]
        refine x_var (by exact rfl) ?_
        refine x_isi (ty_lst S 4 (by exact rfl)) (by decide +kernel : kitB "list" "list" = some true) ?_
        refine ⟨_, rfl, ?_⟩
        refine iteF ?_
        refine x_var (by exact rfl) ?_
        refine x_var (by exact rfl) ?_
        refine x_neW0 S 4 0 (by exact rfl) (by exact rfl) (hWw.prs hcM) (hW.prs hcL) ?_
        refine ⟨_, rfl, ?_⟩
        refine iteF ?_
        try dsimp only [tMethS1, tMethKS1, WE, tSeq, tAsg, gName, tOp, tUn, tCB, tCons, tNil, tCall, tMethK1, tCallK1, tPar3, tRet, tRetN, tDrop, tTest, tB, tC, tNext, tAugS, tAug, sFld1, sFldAug1, tMeth1, tMake, tMakeK1, tSl, tPart, tNoPart, sDPut1, tDPop, tBM, tBM0, tPar, gSub, tChain, tNot, tNotV, tDG1, tDG2, tDNewT1, iKeys1, iEnum1, iList1, iTup1, iRng1, iRng2, List.set_cons_zero, List.set_cons_succ]
        refine x_if ?_
        try dsimp only [tMethS1, tMethKS1, WE, tSeq, tAsg, gName, tOp, tUn, tCB, tCons, tNil, tCall, tMethK1, tCallK1, tPar3, tRet, tRetN, tDrop, tTest, tB, tC, tNext, tAugS, tAug, sFld1, sFldAug1, tMeth1, tMake, tMakeK1, tSl, tPart, tNoPart, sDPut1, tDPop, tBM, tBM0, tPar, gSub, tChain, tNot, tNotV, tDG1, tDG2, tDNewT1, iKeys1, iEnum1, iList1, iTup1, iRng1, iRng2, List.set_cons_zero, List.set_cons_succ]
        refine x_lc ?_
        try dsimp only [tMethS1, tMethKS1, tOp, tUn, tCB, tCons, tNil, tCall, tMethK1, tCallK1, tC, tMeth1, tMake, tMakeK1, tSl, tPart, tNoPart, tDPop, tChain, tNotV, tBM, tBM0, tDG1, tDG2, tDNewT1, iKeys1, iEnum1, iList1, iTup1, iRng1, iRng2]
        refine x_var (by exact rfl) ?_
        refine x_ilist S 4 (by exact rfl) ?_
        refine lcW (walk_list (xs := ws)) S (fun D1 H S => ⟨fun i H1 => Sep H0 [] H1 ((2, D1, .lst []) :: (2, du1, .lst ds) :: (0, gp, .ins C dx (F_Giver b (h : Nat) pl c)) :: (0, pl, .lst ((ps.drop h).map V.int)) :: (0, pc, .lst (ps.map V.int)) :: (2, wr, .lst ws) :: (M ++ L2)), ?_, ?_, ?_, ?_⟩)
        · exact S
        · rintro i H hi S
          exact S.sl 5 rfl
        · rintro i y H H9 hi S hy
          obtain ⟨rfl, hy⟩ := hy
          obtain ⟨a9, x9, rfl, hx9, hc9⟩ := hWw.2 i _ hy
          obtain ⟨z9, hz9, rfl⟩ := elem_of hx9
          refine ⟨rfl, ?_⟩
          try dsimp only [tMethS1, tMethKS1, WE, wipe, tYes, tSeq, tAsg, gName, tOp, tUn, tCB, tCons, tNil, tCall, tMethK1, tCallK1, tPar3, tRet, tRetN, tDrop, tTest, tB, tC, tNext, tAugS, tAug, sFld1, sFldAug1, tMeth1, tMake, tMakeK1, tSl, tPart, tNoPart, sDPut1, tDPop, tBM, tBM0, tPar, gSub, tChain, tNot, tNotV, tDG1, tDG2, tDNewT1, iKeys1, iEnum1, iList1, iTup1, iRng1, iRng2, List.set_cons_zero, List.set_cons_succ]
          refine x_or ?_
          try dsimp only [tMethS1, tMethKS1, WE, tSeq, tAsg, gName, tOp, tUn, tCB, tCons, tNil, tCall, tMethK1, tCallK1, tPar3, tRet, tRetN, tDrop, tTest, tB, tC, tNext, tAugS, tAug, sFld1, sFldAug1, tMeth1, tMake, tMakeK1, tSl, tPart, tNoPart, sDPut1, tDPop, tBM, tBM0, tPar, gSub, tChain, tNot, tNotV, tDG1, tDG2, tDNewT1, iKeys1, iEnum1, iList1, iTup1, iRng1, iRng2, List.set_cons_zero, List.set_cons_succ]
          refine x_var (by exact rfl) ?_
          refine x_ixTf (S.cellT 6 (by exact List.mem_append_left _ hc9)) (by exact (by exact rfl)) ?_
          refine x_var (by exact rfl) ?_
          refine x_ixTf (S.cellT 6 (by exact List.mem_append_left _ hc9)) (by exact (by exact rfl)) ?_
          refine c_isE (by first | exact Eq.refl _ | (rw [List.length_map, List.length_drop]; omega)) ?_
          refine ⟨_, rfl, ?_⟩
          refine iteF ?_
          refine x_var (by exact rfl) ?_
          refine x_ixTf (S.cellT 6 (by exact List.mem_append_left _ hc9)) (by exact (by exact rfl)) ?_
          refine x_var (by exact rfl) ?_
          refine x_ixTf (S.cellT 6 (by exact List.mem_append_left _ hc9)) (by exact (by exact rfl)) ?_
          refine c_isE (by first | exact Eq.refl _ | (rw [List.length_map, List.length_drop]; omega)) ?_
          refine ⟨_, rfl, ?_⟩
          refine iteF ?_
          exact S
        · rintro H S
          refine x_lst S (by exact Nat.le_of_ble_eq_true rfl) (fun L1 H S => ?_)
          refine x_neL (xs := []) (ys := []) S 1 0 (by exact rfl) (by exact rfl) ?_
          rw [decide_eq_true rfl]
          refine ⟨_, rfl, ?_⟩
          refine iteF ?_
          try dsimp only [tMethS1, tMethKS1, WE, tSeq, tAsg, gName, tOp, tUn, tCB, tCons, tNil, tCall, tMethK1, tCallK1, tPar3, tRet, tRetN, tDrop, tTest, tB, tC, tNext, tAugS, tAug, sFld1, sFldAug1, tMeth1, tMake, tMakeK1, tSl, tPart, tNoPart, sDPut1, tDPop, tBM, tBM0, tPar, gSub, tChain, tNot, tNotV, tDG1, tDG2, tDNewT1, iKeys1, iEnum1, iList1, iTup1, iRng1, iRng2, List.set_cons_zero, List.set_cons_succ]
          refine x_var (by exact rfl) ?_
          refine ⟨x_ty S 6 (by exact rfl), ?_⟩
          refine x_tup S (by exact Nat.le_of_ble_eq_true rfl) (fun U1 H S => ?_)
          refine x_app S 7 (by exact rfl) (by first | omega | decide | (simp only [len_insAt, List.length_map, List.length_append, List.length_cons, List.length_nil, List.length_take, List.length_drop] at *; omega)) (fun H S => ?_)
          simp only [List.set_cons_zero, List.set_cons_succ] at S
          try dsimp only [tMethS1, tMethKS1, WE, tSeq, tAsg, gName, tOp, tUn, tCB, tCons, tNil, tCall, tMethK1, tCallK1, tPar3, tRet, tRetN, tDrop, tTest, tB, tC, tNext, tAugS, tAug, sFld1, sFldAug1, tMeth1, tMake, tMakeK1, tSl, tPart, tNoPart, sDPut1, tDPop, tBM, tBM0, tPar, gSub, tChain, tNot, tNotV, tDG1, tDG2, tDNewT1, iKeys1, iEnum1, iList1, iTup1, iRng1, iRng2, List.set_cons_zero, List.set_cons_succ]
          refine x_var (by exact rfl) ?_
          refine ⟨x_ty S 7 (by exact rfl), ?_⟩
          refine x_rev S 7 (by exact rfl) (fun H S => ?_)
          simp only [List.set_cons_zero, List.set_cons_succ] at S
          exact ⟨M ++ L2, _, _, _, _, rfl, hW.mono (fun c hc => List.mem_append_right _ hc), S.subT 8 [3, 4, 5, 6]⟩
      · rintro σ H ⟨L2, q1, q2, q3, q4, rfl, hW, S⟩
        try dsimp only [tMethS1, tMethKS1, WE, tSeq, tAsg, gName, tOp, tUn, tCB, tCons, tNil, tCall, tMethK1, tCallK1, tPar3, tRet, tRetN, tDrop, tTest, tB, tC, tNext, tAugS, tAug, sFld1, sFldAug1, tMeth1, tMake, tMakeK1, tSl, tPart, tNoPart, sDPut1, tDPop, tBM, tBM0, tPar, gSub, tChain, tNot, tNotV, tDG1, tDG2, tDNewT1, iKeys1, iEnum1, iList1, iTup1, iRng1, iRng2, List.set_cons_zero, List.set_cons_succ]
        refine x_andV ?_
        try dsimp only [tMethS1, tMethKS1, WE, tSeq, tAsg, gName, tOp, tUn, tCB, tCons, tNil, tCall, tMethK1, tCallK1, tPar3, tRet, tRetN, tDrop, tTest, tB, tC, tNext, tAugS, tAug, sFld1, sFldAug1, tMeth1, tMake, tMakeK1, tSl, tPart, tNoPart, sDPut1, tDPop, tBM, tBM0, tPar, gSub, tChain, tNot, tNotV, tDG1, tDG2, tDNewT1, iKeys1, iEnum1, iList1, iTup1, iRng1, iRng2, List.set_cons_zero, List.set_cons_succ]
        refine x_var (by exact rfl) ?_
        refine x_meth S 1 (by exact rfl) nk_Giver_many ?_
        refine c_many S 1 2 (by exact rfl) (by exact rfl) ?_
        refine x_var (by exact rfl) ?_
        refine x_lenI S 3 (by exact rfl) ?_
        refine c_isE (by first | exact Eq.refl _ | (rw [List.length_map, List.length_drop]; omega)) ?_
        refine ⟨_, rfl, ?_⟩
        refine iteT ?_
        refine x_var (by exact rfl) ?_
        refine x_meth S 1 (by exact rfl) nk_Giver_is_shut ?_
        refine c_isshut S 1 (by exact rfl) ?_
        refine x_var (by exact rfl) ?_
        refine c_truthE ?_
        exact k _ (fun b o e => S.fr b o e (by simp))
end
end G

set_option linter.all false
set_option maxRecDepth 100000
set_option maxHeartbeats 4000000
namespace G
open PySem PySem.Spec PyProof.Rows L2

def spLaw (K : PySem.W.Frag) : Sp := fun vs H Q _ => ∃ (a : Addr) (ns : List Int), vs = [.ref a] ∧ SqL K H a (ns.map V.int) ∧ ns.length ≤ 63 ∧ ∀ H', Q (.bl true) H'

theorem c_mkGiver0 {C : Addr} {w : Int} {H0 H : Hp} {ft : List Addr} {l : List Cell} {Q : VK} {E : XK} (S : Sep H0 ft H l) (k : ∀ x dx d H', Sep H0 ft H' ((2, d, .lst []) :: (2, x, .ins C dx (F_Giver w 0 d false)) :: l) → Q (.ref x) H') :
    rMk0 C (spGvInit C) [V.int w] E H Q := by
  refine fun x dx hx hd n => ⟨x, dx, w, rfl, upd_same, fun d H' nd e1 e2 F => ⟨rfl, ?_⟩⟩
  have S1 := S.made (C := C) hx hd n
  have S2 := S1.chg1 0 rfl F e1
  exact k x dx d H' (S1.got S2 rfl nd e2)
theorem drop_snoc {ps : List Int} {h : Nat} {v : Int} (hh : h ≤ ps.length) : (ps.drop h).map V.int ++ [V.int v] = ((ps ++ [v]).drop h).map V.int := by
  rw [List.drop_append_of_le_length hh, List.map_append]
  rfl
theorem drop_more {ps : List Int} {h c : Int} (h0 : 0 ≤ h) (c0 : 0 ≤ c) : ((ps.drop h.toNat).map V.int).drop (c - h).toNat = (ps.drop (max h c).toNat).map V.int := by
  rw [← List.map_drop, List.drop_drop, show h.toNat + (c - h).toNat = (max h c).toNat by omega]
theorem x_neK {x y : V} {b : Bool} {H : Hp} {Q : VK} (e : (!decide (x = y)) = b) (q : Q (.bl b) H) (s : scal x y = true := by rfl) : rNe x y H Q := ⟨s, by rw [e]; exact q⟩
theorem x_eqK {x y : V} {b : Bool} {H : Hp} {Q : VK} (e : decide (x = y) = b) (q : Q (.bl b) H) (s : scal x y = true := by rfl) : rEq x y H Q := ⟨s, by rw [e]; exact q⟩
section
variable {P : Program} {w : World} {K : PySem.W.Frag} {mg : Str → Option Value} {base : Heap}
abbrev s_law : Stmt := (topS 30)
theorem sc_law : FnScope ["_law_script", "_law_hold", "_law_wide_here", "_law_giver", "_law_pieces", "_law_had", "_law_below", "_law_closed", "_law_k", "_law_way", "_law_often", "_law_turn", "_law_piece", "_law_due", "_law_come", "_law_space"] ["_law_script"] (defScope s_law) := ⟨rfl, rfl, rfl, by decide +kernel, rfl, by decide +kernel, by decide +kernel⟩
theorem ok_law {f : Addr} {fd : FuncData} {CG : Addr} (F : L2.Fun K "law" "law" s_law f fd) (cd : Cal P w K mg base CX0 1 "_law_draw" spDraw) (cv : Cal P w K mg base CX0 2 "_law_value" spValue) (cw : Cal P w K mg base CX0 2 "_law_wide" spWide) (mkg : MakK P w K mg base CX0 1 "Giver" CG ["window"] (spGvInit CG)) (mkd : MakD P w K mg base CX0 1 "Giver" CG [V.int 4] (spGvInit CG)) (clp : Cal P w K mg base CX0 3 "_law_put" (spLPut CG)) (cls : Cal P w K mg base CX0 3 "_law_shut" (spLShut CG)) (clr : Cal P w K mg base CX0 2 "_law_right" (spRight9 CG)) (mheard : MetK P w K mg base CX0 1 CG "heard" ["room", "got"] [1, 0] (spHeard CG)) (z_list : mg "list" = none) (z_len : mg "len" = none) (z_range : mg "range" = none) (z_max : mg "max" = none) (z_min : mg "min" = none) : FnOk P w K mg base CX0 4 f fd ["_law_script"] (spLaw K) := by
  refine F.ok sc_law (fun vs H Q E h => ?_) (fun cdv A outer s H0 vs Q E hr h => ?_)
  · obtain ⟨a, ns, rfl, hs, hl, k⟩ := h
    rfl
  · obtain ⟨a, ns, rfl, hs, hl, k⟩ := h
    have hu := hu_of hr
    have S := Sep.of0 (H := H0)
    refine ⟨_, pss_cons (ps_set (i := 1) sc_law.nd rfl (.inl rfl) (pe_lst1 (pa_cons (pe_int) (pa_cons (pe_ifExp (pt_cmpR (op_neDK K hr.units) (pv 0) (pe_lst1 pa_nil) (nomark _)) (pe_callTy (cl_listK K) (by rfl) z_list (by decide +kernel) (pa_cons (pv 0) pa_nil)) (pe_lst1 (pa_cons (pe_int) pa_nil))) pa_nil))))
      (pss_cons (ps_set (i := 2) sc_law.nd rfl (.inl rfl) (pe_c cw hr (by decide) (by rfl) pass0 (pa_cons (pv 1) pa_nil)))
      (pss_cons (ps_set (i := 3) sc_law.nd rfl (.inl rfl) (pe_ifExp ((pw_and (pt_cmpR op_eq (pv 2) (pe_int) (nomark _)) (pw_and1 (pt_cmpR op_eq (pe_c cd hr (by decide) (by rfl) pass0 (pa_cons (pv 1) (pa_cons (pe_int) pa_nil))) (pe_int) (nomark _)))).pt) (pe_mkD mkd hr (by decide) (by rfl) pass0) (pe_mkK mkg hr (by decide) (by rfl) pass0 (pk_cons (pv 2) pk_nil))))
      (pss_cons (ps_asg (pe_tup1 (pa_cons (pe_lst1 pa_nil) (pa_cons (pe_int) (pa_cons (pv 2) (pa_cons (pe_bl) pa_nil))))) (pg_tup rfl (pgs_cons (pg_name (i := 4) sc_law.nd rfl (.inl rfl)) (pgs_cons (pg_name (i := 5) sc_law.nd rfl (.inl rfl)) (pgs_cons (pg_name (i := 6) sc_law.nd rfl (.inl rfl)) (pgs_cons (pg_name (i := 7) sc_law.nd rfl (.inl rfl)) (pgs_nil)))))))
      (pss_cons (ps_for PassesOwn.never rfl (pi_range1 (by rfl) z_range (pa_cons (pe_callB (cl_max rfl) (by rfl) z_max (by decide +kernel) (pa_cons (pe_int) (pa_cons (pe_callB (cl_min rfl) (by rfl) z_min (by decide +kernel) (pa_cons (pe_int) (pa_cons (pe_callB (cl_lenK K) (by rfl) z_len PySem.boot_len (pa_cons (pv 0) pa_nil)) pa_nil))) pa_nil))) pa_nil)) (pg_name (i := 8) sc_law.nd rfl (.inl rfl)) (pss_cons (ps_par (i := 9) (j := 10) rfl sc_law.nd rfl rfl (by decide) rfl rfl (pa_cons (pe_c cd hr (by decide) (by rfl) pass0 (pa_cons (pv 1) (pa_cons (pe_int) pa_nil))) (pa_cons (pe_op op_add (pe_int) (pe_op op_mul (pe_op op_fdivW (pe_c cd hr (by decide) (by rfl) pass0 (pa_cons (pv 1) (pa_cons (pe_int) pa_nil))) (pe_int)) (pe_int))) pa_nil)) rfl)
      (pss_cons (ps_if (pt_cmpR op_lt (pv 9) (pe_int) (nomark _)) (pss_one (ps_for PassesOwn.never rfl (pi_range1 (by rfl) z_range (pa_cons (pv 10) pa_nil)) (pg_name (i := 11) sc_law.nd rfl (.inl rfl)) (pss_cons (ps_set (i := 12) sc_law.nd rfl (.inl rfl) (pe_c cv hr (by decide) (by rfl) pass0 (pa_cons (pv 1) pa_nil)))
      (pss_cons (ps_set (i := 13) sc_law.nd rfl (.inl rfl) (pe_ifExp (pt_val (pv 7)) (pe_str) (pe_ifExp (pt_cmpR op_ge (pe_callB (cl_lenK K) (by rfl) z_len PySem.boot_len (pa_cons (pv 4) pa_nil)) (pv 6) (nomark _)) (pe_str) (pe_str))))
      (pss_cons (ps_if (pt_cmpR op_ne (pe_c clp hr (by decide) (by rfl) pass0 (pa_cons (pv 3) (pa_cons (pv 12) pa_nil))) (pv 13) (nomark _)) (pss_one (ps_never)) (pss_nil))
      (pss_one (ps_if (pt_cmpR op_eq (pv 13) (pe_str) (nomark _)) (pss_one (ps_expr (pe_bm PySem.F.plainAttrs_list PySem.F.slot_list_append PySem.F.type_list_append mt_append (pv 4) (pa_cons (pv 12) pa_nil)))) (pss_nil)))))))) (pss_one (ps_if (pt_cmpR op_lt (pv 9) (pe_int) (nomark _)) (pss_cons (ps_set (i := 14) sc_law.nd rfl (.inl rfl) (pe_c cd hr (by decide) (by rfl) pass0 (pa_cons (pv 1) (pa_cons (pe_op op_add (pe_callB (cl_lenK K) (by rfl) z_len PySem.boot_len (pa_cons (pv 4) pa_nil)) (pe_int)) pa_nil))))
      (pss_cons (ps_set (i := 15) sc_law.nd rfl (.inl rfl) (pe_ix (ix_listK K) (pe_lst1 (pa_cons (pv 14) (pa_cons (pe_op op_add (pv 14) (pv 2)) (pa_cons (pe_op op_add (pv 6) (pe_c cd hr (by decide) (by rfl) pass0 (pa_cons (pv 1) (pa_cons (pe_int) pa_nil)))) (pa_cons (pe_c cd hr (by decide) (by rfl) pass0 (pa_cons (pv 1) (pa_cons (pe_int) pa_nil))) pa_nil))))) (pe_op op_sub (pv 9) (pe_int)) (fun _ _ => rfl)))
      (pss_cons (ps_expr (pe_mtK mheard hr (by decide) pass0 (pv 3) (pk_cons (pv 15) (pk_cons (pv 14) pk_nil))))
      (pss_one (ps_par (i := 5) (j := 6) rfl sc_law.nd rfl rfl (by decide) rfl rfl (pa_cons (pe_callB (cl_max rfl) (by rfl) z_max (by decide +kernel) (pa_cons (pv 5) (pa_cons (pv 14) pa_nil))) (pa_cons (pe_callB (cl_max rfl) (by rfl) z_max (by decide +kernel) (pa_cons (pv 6) (pa_cons (pv 15) pa_nil))) pa_nil)) rfl))))) (pss_cons (ps_if (pt_cmpR op_ne (pe_c cls hr (by decide) (by rfl) pass0 (pa_cons (pv 3) pa_nil)) (pe_ifExp (pt_val (pv 7)) (pe_str) (pe_str)) (nomark _)) (pss_one (ps_never)) (pss_nil))
      (pss_one (ps_set (i := 7) sc_law.nd rfl (.inl rfl) (pe_bl)))))))
      (pss_one (ps_if (pt_not (pt_val (pe_c clr hr (by decide) (by rfl) pass0 (pa_cons (pv 3) (pa_cons (pv 4) (pa_cons (pv 5) (pa_cons (pv 7) pa_nil))))))) (pss_one (ps_never)) (pss_nil))))))
      (pss_one (ps_ret (pe_bl))))))), ?_⟩
    rw [show start ["_law_script", "_law_hold", "_law_wide_here", "_law_giver", "_law_pieces", "_law_had", "_law_below", "_law_closed", "_law_k", "_law_way", "_law_often", "_law_turn", "_law_piece", "_law_due", "_law_come", "_law_space"] [V.ref a] = [some (V.ref a), none, none, none, none, none, none, none, none, none, none, none, none, none, none, none] from rfl]
    try dsimp only [tMethS1, tMethKS1, WE, tSeq, tAsg, gName, tOp, tUn, tCB, tCons, tNil, tCall, tMethK1, tCallK1, tPar3, tRet, tRetN, tDrop, tTest, tB, tC, tNext, tAugS, tAug, sFld1, sFldAug1, tMeth1, tMake, tMakeK1, tSl, tPart, tNoPart, sDPut1, tDPop, tBM, tBM0, tPar, gSub, tChain, tNot, tNotV, tDG1, tDG2, tDNewT1, iKeys1, iEnum1, iList1, iTup1, iRng1, iRng2, List.set_cons_zero, List.set_cons_succ]
    refine x_ifx (fun v H' => ∃ (q : Addr) (cs : List Int), v = .ref q ∧ Hold 0 cs ∧ Sep H0 [] H' [(2, q, .lst (cs.map V.int))]) ?_ (fun KK => ?_)
    · rintro v H ⟨hq, cs, rfl, hh, S⟩
      refine x_lst S (by exact Nat.le_of_ble_eq_true rfl) (fun L1 H S => ?_)
      try dsimp only [tMethS1, tMethKS1, WE, tSeq, tAsg, gName, tOp, tUn, tCB, tCons, tNil, tCall, tMethK1, tCallK1, tPar3, tRet, tRetN, tDrop, tTest, tB, tC, tNext, tAugS, tAug, sFld1, sFldAug1, tMeth1, tMake, tMakeK1, tSl, tPart, tNoPart, sDPut1, tDPop, tBM, tBM0, tPar, gSub, tChain, tNot, tNotV, tDG1, tDG2, tDNewT1, iKeys1, iEnum1, iList1, iTup1, iRng1, iRng2, List.set_cons_zero, List.set_cons_succ]
      refine x_var (by exact rfl) ?_
      refine c_wide S 0 1 (by exact rfl) (by exact rfl) hh (by omega) (fun w1 n1 cs1 H w1a w1b hn1 hh S => ?_)
      simp only [List.set_cons_zero, List.set_cons_succ] at S
      try dsimp only [tMethS1, tMethKS1, WE, tSeq, tAsg, gName, tOp, tUn, tCB, tCons, tNil, tCall, tMethK1, tCallK1, tPar3, tRet, tRetN, tDrop, tTest, tB, tC, tNext, tAugS, tAug, sFld1, sFldAug1, tMeth1, tMake, tMakeK1, tSl, tPart, tNoPart, sDPut1, tDPop, tBM, tBM0, tPar, gSub, tChain, tNot, tNotV, tDG1, tDG2, tDNewT1, iKeys1, iEnum1, iList1, iTup1, iRng1, iRng2, List.set_cons_zero, List.set_cons_succ]
      refine x_ifx (fun v H' => ∃ (o xo d : Addr) (n : Int) (cs : List Int), v = .ref o ∧ n ≤ 7 ∧ Hold n cs ∧ Sep H0 [] H' [(2, o, .ins CG xo (F_Giver w1 0 d false)), (2, d, .lst []), (2, L1, .lst [.int n, .ref hq]), (2, hq, .lst (cs.map V.int))]) ?_ (fun KK => ?_)
      · rintro v H ⟨gv1, xgv1, gl1, n0, cs0, rfl, hn0, hh, S⟩
        try dsimp only [tMethS1, tMethKS1, WE, tSeq, tAsg, gName, tOp, tUn, tCB, tCons, tNil, tCall, tMethK1, tCallK1, tPar3, tRet, tRetN, tDrop, tTest, tB, tC, tNext, tAugS, tAug, sFld1, sFldAug1, tMeth1, tMake, tMakeK1, tSl, tPart, tNoPart, sDPut1, tDPop, tBM, tBM0, tPar, gSub, tChain, tNot, tNotV, tDG1, tDG2, tDNewT1, iKeys1, iEnum1, iList1, iTup1, iRng1, iRng2, List.set_cons_zero, List.set_cons_succ]
        refine x_lst S (by exact Nat.le_of_ble_eq_true rfl) (fun pc1 H S => ?_)
        refine x_var (by exact rfl) ?_
        refine x_tup S (by exact Nat.le_of_ble_eq_true rfl) (fun U1 H S => ?_)
        refine ⟨_, _, rfl, S.st 0 rfl, rfl, _, _, rfl, _, _, rfl, _, _, rfl, _, _, rfl, rfl, ?_⟩
        try dsimp only [tMethS1, tMethKS1, WE, tSeq, tAsg, gName, tOp, tUn, tCB, tCons, tNil, tCall, tMethK1, tCallK1, tPar3, tRet, tRetN, tDrop, tTest, tB, tC, tNext, tAugS, tAug, sFld1, sFldAug1, tMeth1, tMake, tMakeK1, tSl, tPart, tNoPart, sDPut1, tDPop, tBM, tBM0, tPar, gSub, tChain, tNot, tNotV, tDG1, tDG2, tDNewT1, iKeys1, iEnum1, iList1, iTup1, iRng1, iRng2, List.set_cons_zero, List.set_cons_succ]
        refine x_for ?_
        try dsimp only [tMethS1, tMethKS1, tOp, tUn, tCB, tCons, tNil, tCall, tMethK1, tCallK1, tC, tMeth1, tMake, tMakeK1, tSl, tPart, tNoPart, tDPop, tChain, tNotV, tBM, tBM0, tDG1, tDG2, tDNewT1, iKeys1, iEnum1, iList1, iTup1, iRng1, iRng2]
        refine x_var (by exact rfl) ?_
        refine x_lenS (S.sq hs (by simp)) ?_
        refine x_min ?_
        refine x_max ?_
        refine ⟨_, rfl, by omega, by omega, ?_⟩
        refine forR (fun i σ H1 => ∃ (n b h : Int) (cs ps : List Int) (c : Bool) (pl : Addr) (q1 q2 q3 q4 q5 q6 q7 q8 : Option V), σ = [some (.ref a), some (.ref L1), some (.int w1), some (.ref gv1), some (.ref pc1), some (.int h), some (.int b), some (.bl c), q1, q2, q3, q4, q5, q6, q7, q8] ∧ n ≤ 600 + 600 * i ∧ i ≤ 40 ∧ Hold n cs ∧ 0 ≤ h ∧ h ≤ ps.length ∧ ps.length ≤ 71 * i ∧ Sep H0 [] H1 [(2, gv1, .ins CG xgv1 (F_Giver b h pl c)), (2, pl, .lst ((ps.drop h.toNat).map V.int)), (2, L1, .lst [.int n, .ref hq]), (2, hq, .lst (cs.map V.int)), (2, pc1, .lst (ps.map V.int))]) ?_ ?_ ?_
        · exact ⟨_, _, 0, _, [], false, _, _, _, _, _, _, _, _, _, rfl, by omega, by omega, hh, by omega, by simp, by simp, S.sub [2, 3, 4, 5, 1]⟩
        · rintro i σ H hi ⟨n, b, h, cs, ps, c, pl, q1, q2, q3, q4, q5, q6, q7, q8, rfl, hn, hi40, hh, hh0, hh1, hpl, S⟩
          try dsimp only [tMethS1, tMethKS1, WE, tSeq, tAsg, gName, tOp, tUn, tCB, tCons, tNil, tCall, tMethK1, tCallK1, tPar3, tRet, tRetN, tDrop, tTest, tB, tC, tNext, tAugS, tAug, sFld1, sFldAug1, tMeth1, tMake, tMakeK1, tSl, tPart, tNoPart, sDPut1, tDPop, tBM, tBM0, tPar, gSub, tChain, tNot, tNotV, tDG1, tDG2, tDNewT1, iKeys1, iEnum1, iList1, iTup1, iRng1, iRng2, List.set_cons_zero, List.set_cons_succ]
          try dsimp only [tMethS1, tMethKS1, WE, tSeq, tAsg, gName, tOp, tUn, tCB, tCons, tNil, tCall, tMethK1, tCallK1, tPar3, tRet, tRetN, tDrop, tTest, tB, tC, tNext, tAugS, tAug, sFld1, sFldAug1, tMeth1, tMake, tMakeK1, tSl, tPart, tNoPart, sDPut1, tDPop, tBM, tBM0, tPar, gSub, tChain, tNot, tNotV, tDG1, tDG2, tDNewT1, iKeys1, iEnum1, iList1, iTup1, iRng1, iRng2, List.set_cons_zero, List.set_cons_succ]
          refine x_var (by exact rfl) ?_
          refine c_draw S 2 3 (by exact rfl) (by exact rfl) hh (by first | omega | decide | (simp only [len_insAt, List.length_map, List.length_append, List.length_cons, List.length_nil, List.length_take, List.length_drop] at *; omega)) (by first | omega | decide | (simp only [len_insAt, List.length_map, List.length_append, List.length_cons, List.length_nil, List.length_take, List.length_drop] at *; omega)) (by first | omega | decide | (simp only [len_insAt, List.length_map, List.length_append, List.length_cons, List.length_nil, List.length_take, List.length_drop] at *; omega)) (fun r1 cs2 H r1a r1b hh S => ?_)
          simp only [List.set_cons_zero, List.set_cons_succ] at S
          refine x_var (by exact rfl) ?_
          refine c_draw S 2 3 (by exact rfl) (by exact rfl) hh (by first | omega | decide | (simp only [len_insAt, List.length_map, List.length_append, List.length_cons, List.length_nil, List.length_take, List.length_drop] at *; omega)) (by first | omega | decide | (simp only [len_insAt, List.length_map, List.length_append, List.length_cons, List.length_nil, List.length_take, List.length_drop] at *; omega)) (by first | omega | decide | (simp only [len_insAt, List.length_map, List.length_append, List.length_cons, List.length_nil, List.length_take, List.length_drop] at *; omega)) (fun r2 cs3 H r2a r2b hh S => ?_)
          simp only [List.set_cons_zero, List.set_cons_succ] at S
          refine x_I (by first | exact ⟨by decide, by decide⟩ | exact div_ok (by omega) (by omega)) ?_
          refine x_I (by first | exact .inr ⟨by decide, by decide⟩ | exact .inl ⟨by decide, by decide⟩ | exact .inr ⟨by omega, by omega⟩ | exact .inl ⟨by omega, by omega⟩) ?_
          refine x_I0 ?_
          refine ⟨_, _, rfl, ?_⟩
          try dsimp only [tMethS1, tMethKS1, WE, tSeq, tAsg, gName, tOp, tUn, tCB, tCons, tNil, tCall, tMethK1, tCallK1, tPar3, tRet, tRetN, tDrop, tTest, tB, tC, tNext, tAugS, tAug, sFld1, sFldAug1, tMeth1, tMake, tMakeK1, tSl, tPart, tNoPart, sDPut1, tDPop, tBM, tBM0, tPar, gSub, tChain, tNot, tNotV, tDG1, tDG2, tDNewT1, iKeys1, iEnum1, iList1, iTup1, iRng1, iRng2, List.set_cons_zero, List.set_cons_succ]
          refine x_if ?_
          try dsimp only [tMethS1, tMethKS1, WE, tSeq, tAsg, gName, tOp, tUn, tCB, tCons, tNil, tCall, tMethK1, tCallK1, tPar3, tRet, tRetN, tDrop, tTest, tB, tC, tNext, tAugS, tAug, sFld1, sFldAug1, tMeth1, tMake, tMakeK1, tSl, tPart, tNoPart, sDPut1, tDPop, tBM, tBM0, tPar, gSub, tChain, tNot, tNotV, tDG1, tDG2, tDNewT1, iKeys1, iEnum1, iList1, iTup1, iRng1, iRng2, List.set_cons_zero, List.set_cons_succ]
          refine x_var (by exact rfl) ?_
          refine x_I0 ?_
          refine ⟨_, rfl, ?_⟩
          refine ited (fun c1 => ?_) (fun c1 => ?_)
          · try dsimp only [tMethS1, tMethKS1, WE, tSeq, tAsg, gName, tOp, tUn, tCB, tCons, tNil, tCall, tMethK1, tCallK1, tPar3, tRet, tRetN, tDrop, tTest, tB, tC, tNext, tAugS, tAug, sFld1, sFldAug1, tMeth1, tMake, tMakeK1, tSl, tPart, tNoPart, sDPut1, tDPop, tBM, tBM0, tPar, gSub, tChain, tNot, tNotV, tDG1, tDG2, tDNewT1, iKeys1, iEnum1, iList1, iTup1, iRng1, iRng2, List.set_cons_zero, List.set_cons_succ]
            refine x_for ?_
            try dsimp only [tMethS1, tMethKS1, tOp, tUn, tCB, tCons, tNil, tCall, tMethK1, tCallK1, tC, tMeth1, tMake, tMakeK1, tSl, tPart, tNoPart, tDPop, tChain, tNotV, tBM, tBM0, tDG1, tDG2, tDNewT1, iKeys1, iEnum1, iList1, iTup1, iRng1, iRng2]
            refine x_var (by exact rfl) ?_
            refine ⟨_, rfl, by omega, by omega, ?_⟩
            refine forR (fun j σ H1 => ∃ (n2 : Int) (cs ps2 : List Int) (q4 q5 q6 : Option V), σ = [some (.ref a), some (.ref L1), some (.int w1), some (.ref gv1), some (.ref pc1), some (.int h), some (.int b), some (.bl c), some (.int (0 + (i : Nat))), some (.int r1), some (.int (1 + r2 / 5 * 70)), q4, q5, q6, q7, q8] ∧ n2 ≤ n + 1 + 1 + 6 * j ∧ Hold n2 cs ∧ h ≤ ps2.length ∧ ps2.length ≤ ps.length + j ∧ Sep H0 [] H1 [(2, gv1, .ins CG xgv1 (F_Giver b h pl c)), (2, pl, .lst ((ps2.drop h.toNat).map V.int)), (2, L1, .lst [.int n2, .ref hq]), (2, hq, .lst (cs.map V.int)), (2, pc1, .lst (ps2.map V.int))]) ?_ ?_ ?_
            · exact ⟨_, _, _, _, _, _, rfl, by omega, hh, hh1, by omega, S.sub [0, 1, 2, 3, 4]⟩
            · rintro j σ H hi ⟨n2, cs, ps2, q4, q5, q6, rfl, hn2, hh, hh1, hps2, S⟩
              have hlx : (h : Int) + (((ps2.drop h.toNat).map V.int).length : Nat) = ps2.length := by rw [List.length_map, List.length_drop]; omega
              try dsimp only [tMethS1, tMethKS1, WE, tSeq, tAsg, gName, tOp, tUn, tCB, tCons, tNil, tCall, tMethK1, tCallK1, tPar3, tRet, tRetN, tDrop, tTest, tB, tC, tNext, tAugS, tAug, sFld1, sFldAug1, tMeth1, tMake, tMakeK1, tSl, tPart, tNoPart, sDPut1, tDPop, tBM, tBM0, tPar, gSub, tChain, tNot, tNotV, tDG1, tDG2, tDNewT1, iKeys1, iEnum1, iList1, iTup1, iRng1, iRng2, List.set_cons_zero, List.set_cons_succ]
              try dsimp only [tMethS1, tMethKS1, WE, tSeq, tAsg, gName, tOp, tUn, tCB, tCons, tNil, tCall, tMethK1, tCallK1, tPar3, tRet, tRetN, tDrop, tTest, tB, tC, tNext, tAugS, tAug, sFld1, sFldAug1, tMeth1, tMake, tMakeK1, tSl, tPart, tNoPart, sDPut1, tDPop, tBM, tBM0, tPar, gSub, tChain, tNot, tNotV, tDG1, tDG2, tDNewT1, iKeys1, iEnum1, iList1, iTup1, iRng1, iRng2, List.set_cons_zero, List.set_cons_succ]
              refine x_var (by exact rfl) ?_
              refine c_value S 2 3 (by exact rfl) (by exact rfl) hh (by omega) (fun r3 n2 cs4 H hn2 hh S => ?_)
              simp only [List.set_cons_zero, List.set_cons_succ] at S
              try dsimp only [tMethS1, tMethKS1, WE, tSeq, tAsg, gName, tOp, tUn, tCB, tCons, tNil, tCall, tMethK1, tCallK1, tPar3, tRet, tRetN, tDrop, tTest, tB, tC, tNext, tAugS, tAug, sFld1, sFldAug1, tMeth1, tMake, tMakeK1, tSl, tPart, tNoPart, sDPut1, tDPop, tBM, tBM0, tPar, gSub, tChain, tNot, tNotV, tDG1, tDG2, tDNewT1, iKeys1, iEnum1, iList1, iTup1, iRng1, iRng2, List.set_cons_zero, List.set_cons_succ]
              refine x_ifE ?_
              try dsimp only [tMethS1, tMethKS1, WE, tSeq, tAsg, gName, tOp, tUn, tCB, tCons, tNil, tCall, tMethK1, tCallK1, tPar3, tRet, tRetN, tDrop, tTest, tB, tC, tNext, tAugS, tAug, sFld1, sFldAug1, tMeth1, tMake, tMakeK1, tSl, tPart, tNoPart, sDPut1, tDPop, tBM, tBM0, tPar, gSub, tChain, tNot, tNotV, tDG1, tDG2, tDNewT1, iKeys1, iEnum1, iList1, iTup1, iRng1, iRng2, List.set_cons_zero, List.set_cons_succ]
              refine x_var (by exact rfl) ?_
              refine ⟨_, rfl, ?_⟩
              refine iteb (fun c2 => ?_) (fun c2 => ?_)
              · try dsimp only [tMethS1, tMethKS1, WE, tSeq, tAsg, gName, tOp, tUn, tCB, tCons, tNil, tCall, tMethK1, tCallK1, tPar3, tRet, tRetN, tDrop, tTest, tB, tC, tNext, tAugS, tAug, sFld1, sFldAug1, tMeth1, tMake, tMakeK1, tSl, tPart, tNoPart, sDPut1, tDPop, tBM, tBM0, tPar, gSub, tChain, tNot, tNotV, tDG1, tDG2, tDNewT1, iKeys1, iEnum1, iList1, iTup1, iRng1, iRng2, List.set_cons_zero, List.set_cons_succ]
                refine x_if ?_
                try dsimp only [tMethS1, tMethKS1, WE, tSeq, tAsg, gName, tOp, tUn, tCB, tCons, tNil, tCall, tMethK1, tCallK1, tPar3, tRet, tRetN, tDrop, tTest, tB, tC, tNext, tAugS, tAug, sFld1, sFldAug1, tMeth1, tMake, tMakeK1, tSl, tPart, tNoPart, sDPut1, tDPop, tBM, tBM0, tPar, gSub, tChain, tNot, tNotV, tDG1, tDG2, tDNewT1, iKeys1, iEnum1, iList1, iTup1, iRng1, iRng2, List.set_cons_zero, List.set_cons_succ]
                refine x_var (by exact rfl) ?_
                refine x_var (by exact rfl) ?_
                refine ⟨_, _, _, _, _, _, _, _, rfl, S.pre [(0, 0), (1, 1)], by rw [List.length_map, List.length_drop]; omega, (fun hc H F => ?_), (fun hc => absurd (c2.symm.trans hc) (by decide)), (fun hc => absurd (c2.symm.trans hc) (by decide))⟩
                have S := S.stay F
                refine x_var (by exact rfl) ?_
                refine x_neK (b := false) (by decide) ?_
                refine ⟨_, rfl, ?_⟩
                refine iteF ?_
                try dsimp only [tMethS1, tMethKS1, WE, tSeq, tAsg, gName, tOp, tUn, tCB, tCons, tNil, tCall, tMethK1, tCallK1, tPar3, tRet, tRetN, tDrop, tTest, tB, tC, tNext, tAugS, tAug, sFld1, sFldAug1, tMeth1, tMake, tMakeK1, tSl, tPart, tNoPart, sDPut1, tDPop, tBM, tBM0, tPar, gSub, tChain, tNot, tNotV, tDG1, tDG2, tDNewT1, iKeys1, iEnum1, iList1, iTup1, iRng1, iRng2, List.set_cons_zero, List.set_cons_succ]
                refine x_if ?_
                try dsimp only [tMethS1, tMethKS1, WE, tSeq, tAsg, gName, tOp, tUn, tCB, tCons, tNil, tCall, tMethK1, tCallK1, tPar3, tRet, tRetN, tDrop, tTest, tB, tC, tNext, tAugS, tAug, sFld1, sFldAug1, tMeth1, tMake, tMakeK1, tSl, tPart, tNoPart, sDPut1, tDPop, tBM, tBM0, tPar, gSub, tChain, tNot, tNotV, tDG1, tDG2, tDNewT1, iKeys1, iEnum1, iList1, iTup1, iRng1, iRng2, List.set_cons_zero, List.set_cons_succ]
                refine x_var (by exact rfl) ?_
                refine x_eqK (b := false) (by decide) ?_
                refine ⟨_, rfl, ?_⟩
                refine iteF ?_
                exact ⟨_, _, _, _, _, _, rfl, by omega, hh, by omega, by omega, S.sub [0, 1, 2, 3, 4]⟩
              · refine x_ifE ?_
                try dsimp only [tMethS1, tMethKS1, WE, tSeq, tAsg, gName, tOp, tUn, tCB, tCons, tNil, tCall, tMethK1, tCallK1, tPar3, tRet, tRetN, tDrop, tTest, tB, tC, tNext, tAugS, tAug, sFld1, sFldAug1, tMeth1, tMake, tMakeK1, tSl, tPart, tNoPart, sDPut1, tDPop, tBM, tBM0, tPar, gSub, tChain, tNot, tNotV, tDG1, tDG2, tDNewT1, iKeys1, iEnum1, iList1, iTup1, iRng1, iRng2, List.set_cons_zero, List.set_cons_succ]
                refine x_var (by exact rfl) ?_
                refine x_lenI S 4 (by exact rfl) ?_
                refine x_var (by exact rfl) ?_
                refine x_I0 ?_
                refine ⟨_, rfl, ?_⟩
                refine ited (fun c3 => ?_) (fun c3 => ?_)
                · try dsimp only [tMethS1, tMethKS1, WE, tSeq, tAsg, gName, tOp, tUn, tCB, tCons, tNil, tCall, tMethK1, tCallK1, tPar3, tRet, tRetN, tDrop, tTest, tB, tC, tNext, tAugS, tAug, sFld1, sFldAug1, tMeth1, tMake, tMakeK1, tSl, tPart, tNoPart, sDPut1, tDPop, tBM, tBM0, tPar, gSub, tChain, tNot, tNotV, tDG1, tDG2, tDNewT1, iKeys1, iEnum1, iList1, iTup1, iRng1, iRng2, List.set_cons_zero, List.set_cons_succ]
                  refine x_if ?_
                  try dsimp only [tMethS1, tMethKS1, WE, tSeq, tAsg, gName, tOp, tUn, tCB, tCons, tNil, tCall, tMethK1, tCallK1, tPar3, tRet, tRetN, tDrop, tTest, tB, tC, tNext, tAugS, tAug, sFld1, sFldAug1, tMeth1, tMake, tMakeK1, tSl, tPart, tNoPart, sDPut1, tDPop, tBM, tBM0, tPar, gSub, tChain, tNot, tNotV, tDG1, tDG2, tDNewT1, iKeys1, iEnum1, iList1, iTup1, iRng1, iRng2, List.set_cons_zero, List.set_cons_succ]
                  refine x_var (by exact rfl) ?_
                  refine x_var (by exact rfl) ?_
                  refine ⟨_, _, _, _, _, _, _, _, rfl, S.pre [(0, 0), (1, 1)], by rw [List.length_map, List.length_drop]; omega, (fun hc => absurd (c2.symm.trans hc) (by decide)), (fun hc hb H F => ?_), (fun hc hb => absurd hb (by rw [hlx]; omega))⟩
                  have S := S.stay F
                  refine x_var (by exact rfl) ?_
                  refine x_neK (b := false) (by decide) ?_
                  refine ⟨_, rfl, ?_⟩
                  refine iteF ?_
                  try dsimp only [tMethS1, tMethKS1, WE, tSeq, tAsg, gName, tOp, tUn, tCB, tCons, tNil, tCall, tMethK1, tCallK1, tPar3, tRet, tRetN, tDrop, tTest, tB, tC, tNext, tAugS, tAug, sFld1, sFldAug1, tMeth1, tMake, tMakeK1, tSl, tPart, tNoPart, sDPut1, tDPop, tBM, tBM0, tPar, gSub, tChain, tNot, tNotV, tDG1, tDG2, tDNewT1, iKeys1, iEnum1, iList1, iTup1, iRng1, iRng2, List.set_cons_zero, List.set_cons_succ]
                  refine x_if ?_
                  try dsimp only [tMethS1, tMethKS1, WE, tSeq, tAsg, gName, tOp, tUn, tCB, tCons, tNil, tCall, tMethK1, tCallK1, tPar3, tRet, tRetN, tDrop, tTest, tB, tC, tNext, tAugS, tAug, sFld1, sFldAug1, tMeth1, tMake, tMakeK1, tSl, tPart, tNoPart, sDPut1, tDPop, tBM, tBM0, tPar, gSub, tChain, tNot, tNotV, tDG1, tDG2, tDNewT1, iKeys1, iEnum1, iList1, iTup1, iRng1, iRng2, List.set_cons_zero, List.set_cons_succ]
                  refine x_var (by exact rfl) ?_
                  refine x_eqK (b := false) (by decide) ?_
                  refine ⟨_, rfl, ?_⟩
                  refine iteF ?_
                  exact ⟨_, _, _, _, _, _, rfl, by omega, hh, by omega, by omega, S.sub [0, 1, 2, 3, 4]⟩
                · try dsimp only [tMethS1, tMethKS1, WE, tSeq, tAsg, gName, tOp, tUn, tCB, tCons, tNil, tCall, tMethK1, tCallK1, tPar3, tRet, tRetN, tDrop, tTest, tB, tC, tNext, tAugS, tAug, sFld1, sFldAug1, tMeth1, tMake, tMakeK1, tSl, tPart, tNoPart, sDPut1, tDPop, tBM, tBM0, tPar, gSub, tChain, tNot, tNotV, tDG1, tDG2, tDNewT1, iKeys1, iEnum1, iList1, iTup1, iRng1, iRng2, List.set_cons_zero, List.set_cons_succ]
                  refine x_if ?_
                  try dsimp only [tMethS1, tMethKS1, WE, tSeq, tAsg, gName, tOp, tUn, tCB, tCons, tNil, tCall, tMethK1, tCallK1, tPar3, tRet, tRetN, tDrop, tTest, tB, tC, tNext, tAugS, tAug, sFld1, sFldAug1, tMeth1, tMake, tMakeK1, tSl, tPart, tNoPart, sDPut1, tDPop, tBM, tBM0, tPar, gSub, tChain, tNot, tNotV, tDG1, tDG2, tDNewT1, iKeys1, iEnum1, iList1, iTup1, iRng1, iRng2, List.set_cons_zero, List.set_cons_succ]
                  refine x_var (by exact rfl) ?_
                  refine x_var (by exact rfl) ?_
                  refine ⟨_, _, _, _, _, _, _, _, rfl, S.pre [(0, 0), (1, 1)], by rw [List.length_map, List.length_drop]; omega, (fun hc => absurd (c2.symm.trans hc) (by decide)), (fun hc hb => absurd (by rw [hlx]; omega) hb), (fun hc hb H e1 F => ?_)⟩
                  have S := S.chg1 1 rfl F e1
                  simp only [List.set_cons_zero, List.set_cons_succ] at S
                  rw [drop_snoc (by omega)] at S
                  refine x_var (by exact rfl) ?_
                  refine x_neK (b := false) (by decide) ?_
                  refine ⟨_, rfl, ?_⟩
                  refine iteF ?_
                  try dsimp only [tMethS1, tMethKS1, WE, tSeq, tAsg, gName, tOp, tUn, tCB, tCons, tNil, tCall, tMethK1, tCallK1, tPar3, tRet, tRetN, tDrop, tTest, tB, tC, tNext, tAugS, tAug, sFld1, sFldAug1, tMeth1, tMake, tMakeK1, tSl, tPart, tNoPart, sDPut1, tDPop, tBM, tBM0, tPar, gSub, tChain, tNot, tNotV, tDG1, tDG2, tDNewT1, iKeys1, iEnum1, iList1, iTup1, iRng1, iRng2, List.set_cons_zero, List.set_cons_succ]
                  refine x_if ?_
                  try dsimp only [tMethS1, tMethKS1, WE, tSeq, tAsg, gName, tOp, tUn, tCB, tCons, tNil, tCall, tMethK1, tCallK1, tPar3, tRet, tRetN, tDrop, tTest, tB, tC, tNext, tAugS, tAug, sFld1, sFldAug1, tMeth1, tMake, tMakeK1, tSl, tPart, tNoPart, sDPut1, tDPop, tBM, tBM0, tPar, gSub, tChain, tNot, tNotV, tDG1, tDG2, tDNewT1, iKeys1, iEnum1, iList1, iTup1, iRng1, iRng2, List.set_cons_zero, List.set_cons_succ]
                  refine x_var (by exact rfl) ?_
                  refine x_eqK (b := true) (by decide) ?_
                  refine ⟨_, rfl, ?_⟩
                  refine iteT ?_
                  try dsimp only [tMethS1, tMethKS1, WE, tSeq, tAsg, gName, tOp, tUn, tCB, tCons, tNil, tCall, tMethK1, tCallK1, tPar3, tRet, tRetN, tDrop, tTest, tB, tC, tNext, tAugS, tAug, sFld1, sFldAug1, tMeth1, tMake, tMakeK1, tSl, tPart, tNoPart, sDPut1, tDPop, tBM, tBM0, tPar, gSub, tChain, tNot, tNotV, tDG1, tDG2, tDNewT1, iKeys1, iEnum1, iList1, iTup1, iRng1, iRng2, List.set_cons_zero, List.set_cons_succ]
                  refine x_var (by exact rfl) ?_
                  refine ⟨x_ty S 4 (by exact rfl), ?_⟩
                  refine x_var (by exact rfl) ?_
                  refine x_appI S 4 (by exact rfl) (by first | omega | decide | (simp only [len_insAt, List.length_map, List.length_append, List.length_cons, List.length_nil, List.length_take, List.length_drop] at *; omega)) (fun H S => ?_)
                  simp only [List.set_cons_zero, List.set_cons_succ] at S
                  exact ⟨_, _, _, _, _, _, rfl, by omega, hh, by rw [List.length_append, List.length_singleton]; omega, by rw [List.length_append, List.length_singleton]; omega, S.sub [0, 1, 2, 3, 4]⟩
            · rintro σ H ⟨n2, cs, ps2, q4, q5, q6, rfl, hn2, hh, hh1, hps2, S⟩
              try dsimp only [tMethS1, tMethKS1, WE, tSeq, tAsg, gName, tOp, tUn, tCB, tCons, tNil, tCall, tMethK1, tCallK1, tPar3, tRet, tRetN, tDrop, tTest, tB, tC, tNext, tAugS, tAug, sFld1, sFldAug1, tMeth1, tMake, tMakeK1, tSl, tPart, tNoPart, sDPut1, tDPop, tBM, tBM0, tPar, gSub, tChain, tNot, tNotV, tDG1, tDG2, tDNewT1, iKeys1, iEnum1, iList1, iTup1, iRng1, iRng2, List.set_cons_zero, List.set_cons_succ]
              refine x_if ?_
              try dsimp only [tMethS1, tMethKS1, WE, tSeq, tAsg, gName, tOp, tUn, tCB, tCons, tNil, tCall, tMethK1, tCallK1, tPar3, tRet, tRetN, tDrop, tTest, tB, tC, tNext, tAugS, tAug, sFld1, sFldAug1, tMeth1, tMake, tMakeK1, tSl, tPart, tNoPart, sDPut1, tDPop, tBM, tBM0, tPar, gSub, tChain, tNot, tNotV, tDG1, tDG2, tDNewT1, iKeys1, iEnum1, iList1, iTup1, iRng1, iRng2, List.set_cons_zero, List.set_cons_succ]
              refine x_var (by exact rfl) ?_
              refine x_var (by exact rfl) ?_
              refine x_var (by exact rfl) ?_
              refine x_var (by exact rfl) ?_
              refine ⟨_, _, _, _, _, _, _, _, rfl, S.pre [(0, 0), (0, 1), (0, 4)], by omega, by omega, by omega, fun H F => ?_⟩
              have S := S.stay F
              refine ⟨_, rfl, ?_⟩
              refine iteF ?_
              exact ⟨_, _, _, _, _, _, _, _, _, _, _, _, _, _, _, rfl, by omega, by omega, hh, by omega, by omega, by omega, S.sub [0, 1, 2, 3, 4]⟩
          · try dsimp only [tMethS1, tMethKS1, WE, tSeq, tAsg, gName, tOp, tUn, tCB, tCons, tNil, tCall, tMethK1, tCallK1, tPar3, tRet, tRetN, tDrop, tTest, tB, tC, tNext, tAugS, tAug, sFld1, sFldAug1, tMeth1, tMake, tMakeK1, tSl, tPart, tNoPart, sDPut1, tDPop, tBM, tBM0, tPar, gSub, tChain, tNot, tNotV, tDG1, tDG2, tDNewT1, iKeys1, iEnum1, iList1, iTup1, iRng1, iRng2, List.set_cons_zero, List.set_cons_succ]
            refine x_if ?_
            try dsimp only [tMethS1, tMethKS1, WE, tSeq, tAsg, gName, tOp, tUn, tCB, tCons, tNil, tCall, tMethK1, tCallK1, tPar3, tRet, tRetN, tDrop, tTest, tB, tC, tNext, tAugS, tAug, sFld1, sFldAug1, tMeth1, tMake, tMakeK1, tSl, tPart, tNoPart, sDPut1, tDPop, tBM, tBM0, tPar, gSub, tChain, tNot, tNotV, tDG1, tDG2, tDNewT1, iKeys1, iEnum1, iList1, iTup1, iRng1, iRng2, List.set_cons_zero, List.set_cons_succ]
            refine x_var (by exact rfl) ?_
            refine x_I0 ?_
            refine ⟨_, rfl, ?_⟩
            refine ited (fun c4 => ?_) (fun c4 => ?_)
            · try dsimp only [tMethS1, tMethKS1, WE, tSeq, tAsg, gName, tOp, tUn, tCB, tCons, tNil, tCall, tMethK1, tCallK1, tPar3, tRet, tRetN, tDrop, tTest, tB, tC, tNext, tAugS, tAug, sFld1, sFldAug1, tMeth1, tMake, tMakeK1, tSl, tPart, tNoPart, sDPut1, tDPop, tBM, tBM0, tPar, gSub, tChain, tNot, tNotV, tDG1, tDG2, tDNewT1, iKeys1, iEnum1, iList1, iTup1, iRng1, iRng2, List.set_cons_zero, List.set_cons_succ]
              refine x_var (by exact rfl) ?_
              refine x_var (by exact rfl) ?_
              refine x_lenI S 4 (by exact rfl) ?_
              refine x_I0 ?_
              refine c_draw S 2 3 (by exact rfl) (by exact rfl) hh (by first | omega | decide | (simp only [len_insAt, List.length_map, List.length_append, List.length_cons, List.length_nil, List.length_take, List.length_drop] at *; omega)) (by first | omega | decide | (simp only [len_insAt, List.length_map, List.length_append, List.length_cons, List.length_nil, List.length_take, List.length_drop] at *; omega)) (by first | omega | decide | (simp only [len_insAt, List.length_map, List.length_append, List.length_cons, List.length_nil, List.length_take, List.length_drop] at *; omega)) (fun r4 cs5 H r4a r4b hh S => ?_)
              simp only [List.set_cons_zero, List.set_cons_succ] at S
              try dsimp only [tMethS1, tMethKS1, WE, tSeq, tAsg, gName, tOp, tUn, tCB, tCons, tNil, tCall, tMethK1, tCallK1, tPar3, tRet, tRetN, tDrop, tTest, tB, tC, tNext, tAugS, tAug, sFld1, sFldAug1, tMeth1, tMake, tMakeK1, tSl, tPart, tNoPart, sDPut1, tDPop, tBM, tBM0, tPar, gSub, tChain, tNot, tNotV, tDG1, tDG2, tDNewT1, iKeys1, iEnum1, iList1, iTup1, iRng1, iRng2, List.set_cons_zero, List.set_cons_succ]
              refine x_var (by exact rfl) ?_
              refine x_var (by exact rfl) ?_
              refine x_var (by exact rfl) ?_
              refine x_I0 ?_
              refine x_var (by exact rfl) ?_
              refine x_var (by exact rfl) ?_
              refine c_draw S 2 3 (by exact rfl) (by exact rfl) hh (by first | omega | decide | (simp only [len_insAt, List.length_map, List.length_append, List.length_cons, List.length_nil, List.length_take, List.length_drop] at *; omega)) (by first | omega | decide | (simp only [len_insAt, List.length_map, List.length_append, List.length_cons, List.length_nil, List.length_take, List.length_drop] at *; omega)) (by first | omega | decide | (simp only [len_insAt, List.length_map, List.length_append, List.length_cons, List.length_nil, List.length_take, List.length_drop] at *; omega)) (fun r5 cs6 H r5a r5b hh S => ?_)
              simp only [List.set_cons_zero, List.set_cons_succ] at S
              refine x_I0 ?_
              refine x_var (by exact rfl) ?_
              refine c_draw S 2 3 (by exact rfl) (by exact rfl) hh (by first | omega | decide | (simp only [len_insAt, List.length_map, List.length_append, List.length_cons, List.length_nil, List.length_take, List.length_drop] at *; omega)) (by first | omega | decide | (simp only [len_insAt, List.length_map, List.length_append, List.length_cons, List.length_nil, List.length_take, List.length_drop] at *; omega)) (by first | omega | decide | (simp only [len_insAt, List.length_map, List.length_append, List.length_cons, List.length_nil, List.length_take, List.length_drop] at *; omega)) (fun r6 cs7 H r6a r6b hh S => ?_)
              simp only [List.set_cons_zero, List.set_cons_succ] at S
              refine x_lst S (by exact Nat.le_of_ble_eq_true rfl) (fun L3 H S => ?_)
              refine x_var (by exact rfl) ?_
              refine x_I0 ?_
              refine x_ixI (cs := [r4, r4 + w1, b + r5, r6]) S 0 (by exact rfl) (by omega) (by first | (show (_ : Int) < 4; omega) | omega) (fun v1 hv1 => ?_)
              have hv1 := List.mem_of_getElem? hv1
              simp only [List.mem_cons, List.not_mem_nil, or_false] at hv1
              try dsimp only [tMethS1, tMethKS1, WE, tSeq, tAsg, gName, tOp, tUn, tCB, tCons, tNil, tCall, tMethK1, tCallK1, tPar3, tRet, tRetN, tDrop, tTest, tB, tC, tNext, tAugS, tAug, sFld1, sFldAug1, tMeth1, tMake, tMakeK1, tSl, tPart, tNoPart, sDPut1, tDPop, tBM, tBM0, tPar, gSub, tChain, tNot, tNotV, tDG1, tDG2, tDNewT1, iKeys1, iEnum1, iList1, iTup1, iRng1, iRng2, List.set_cons_zero, List.set_cons_succ]
              refine x_var (by exact rfl) ?_
              refine x_meth S 1 (by exact rfl) nk_Giver_heard ?_
              refine x_var (by exact rfl) ?_
              refine x_var (by exact rfl) ?_
              refine ⟨rfl, ?_⟩
              refine c_heard S 1 2 (by exact rfl) (by exact rfl) (fun pl1 H S => ?_)
              simp only [List.set_cons_zero, List.set_cons_succ] at S
              rw [drop_more hh0 (by omega), show h + max (r4 - h) 0 = max h r4 by omega] at S
              try dsimp only [tMethS1, tMethKS1, WE, tSeq, tAsg, gName, tOp, tUn, tCB, tCons, tNil, tCall, tMethK1, tCallK1, tPar3, tRet, tRetN, tDrop, tTest, tB, tC, tNext, tAugS, tAug, sFld1, sFldAug1, tMeth1, tMake, tMakeK1, tSl, tPart, tNoPart, sDPut1, tDPop, tBM, tBM0, tPar, gSub, tChain, tNot, tNotV, tDG1, tDG2, tDNewT1, iKeys1, iEnum1, iList1, iTup1, iRng1, iRng2, List.set_cons_zero, List.set_cons_succ]
              refine x_var (by exact rfl) ?_
              refine x_var (by exact rfl) ?_
              refine x_max ?_
              refine x_var (by exact rfl) ?_
              refine x_var (by exact rfl) ?_
              refine x_max ?_
              refine ⟨_, _, rfl, ?_⟩
              try dsimp only [tMethS1, tMethKS1, WE, tSeq, tAsg, gName, tOp, tUn, tCB, tCons, tNil, tCall, tMethK1, tCallK1, tPar3, tRet, tRetN, tDrop, tTest, tB, tC, tNext, tAugS, tAug, sFld1, sFldAug1, tMeth1, tMake, tMakeK1, tSl, tPart, tNoPart, sDPut1, tDPop, tBM, tBM0, tPar, gSub, tChain, tNot, tNotV, tDG1, tDG2, tDNewT1, iKeys1, iEnum1, iList1, iTup1, iRng1, iRng2, List.set_cons_zero, List.set_cons_succ]
              refine x_if ?_
              try dsimp only [tMethS1, tMethKS1, WE, tSeq, tAsg, gName, tOp, tUn, tCB, tCons, tNil, tCall, tMethK1, tCallK1, tPar3, tRet, tRetN, tDrop, tTest, tB, tC, tNext, tAugS, tAug, sFld1, sFldAug1, tMeth1, tMake, tMakeK1, tSl, tPart, tNoPart, sDPut1, tDPop, tBM, tBM0, tPar, gSub, tChain, tNot, tNotV, tDG1, tDG2, tDNewT1, iKeys1, iEnum1, iList1, iTup1, iRng1, iRng2, List.set_cons_zero, List.set_cons_succ]
              refine x_var (by exact rfl) ?_
              refine x_var (by exact rfl) ?_
              refine x_var (by exact rfl) ?_
              refine x_var (by exact rfl) ?_
              refine ⟨_, _, _, _, _, _, _, _, rfl, S.pre [(0, 2), (0, 0), (0, 6)], by omega, by omega, by omega, fun H F => ?_⟩
              have S := S.stay F
              refine ⟨_, rfl, ?_⟩
              refine iteF ?_
              exact ⟨_, _, _, _, _, _, _, _, _, _, _, _, _, _, _, rfl, by omega, by omega, hh, by omega, by omega, by omega, S.sub [2, 0, 4, 5, 6]⟩
            · try dsimp only [tMethS1, tMethKS1, WE, tSeq, tAsg, gName, tOp, tUn, tCB, tCons, tNil, tCall, tMethK1, tCallK1, tPar3, tRet, tRetN, tDrop, tTest, tB, tC, tNext, tAugS, tAug, sFld1, sFldAug1, tMeth1, tMake, tMakeK1, tSl, tPart, tNoPart, sDPut1, tDPop, tBM, tBM0, tPar, gSub, tChain, tNot, tNotV, tDG1, tDG2, tDNewT1, iKeys1, iEnum1, iList1, iTup1, iRng1, iRng2, List.set_cons_zero, List.set_cons_succ]
              cases c with
              | true =>
                refine x_if ?_
                try dsimp only [tMethS1, tMethKS1, WE, tSeq, tAsg, gName, tOp, tUn, tCB, tCons, tNil, tCall, tMethK1, tCallK1, tPar3, tRet, tRetN, tDrop, tTest, tB, tC, tNext, tAugS, tAug, sFld1, sFldAug1, tMeth1, tMake, tMakeK1, tSl, tPart, tNoPart, sDPut1, tDPop, tBM, tBM0, tPar, gSub, tChain, tNot, tNotV, tDG1, tDG2, tDNewT1, iKeys1, iEnum1, iList1, iTup1, iRng1, iRng2, List.set_cons_zero, List.set_cons_succ]
                refine x_var (by exact rfl) ?_
                refine ⟨_, _, _, _, _, _, rfl, S.pre [(1, 0)], (fun hc H F => ?_), (fun hc => nomatch hc)⟩
                have S := S.stay F
                refine x_ifE ?_
                try dsimp only [tMethS1, tMethKS1, WE, tSeq, tAsg, gName, tOp, tUn, tCB, tCons, tNil, tCall, tMethK1, tCallK1, tPar3, tRet, tRetN, tDrop, tTest, tB, tC, tNext, tAugS, tAug, sFld1, sFldAug1, tMeth1, tMake, tMakeK1, tSl, tPart, tNoPart, sDPut1, tDPop, tBM, tBM0, tPar, gSub, tChain, tNot, tNotV, tDG1, tDG2, tDNewT1, iKeys1, iEnum1, iList1, iTup1, iRng1, iRng2, List.set_cons_zero, List.set_cons_succ]
                refine x_var (by exact rfl) ?_
                refine ⟨_, rfl, ?_⟩
                refine iteT ?_
                refine x_neK (b := false) (by decide) ?_
                refine ⟨_, rfl, ?_⟩
                refine iteF ?_
                try dsimp only [tMethS1, tMethKS1, WE, tSeq, tAsg, gName, tOp, tUn, tCB, tCons, tNil, tCall, tMethK1, tCallK1, tPar3, tRet, tRetN, tDrop, tTest, tB, tC, tNext, tAugS, tAug, sFld1, sFldAug1, tMeth1, tMake, tMakeK1, tSl, tPart, tNoPart, sDPut1, tDPop, tBM, tBM0, tPar, gSub, tChain, tNot, tNotV, tDG1, tDG2, tDNewT1, iKeys1, iEnum1, iList1, iTup1, iRng1, iRng2, List.set_cons_zero, List.set_cons_succ]
                try dsimp only [tMethS1, tMethKS1, WE, tSeq, tAsg, gName, tOp, tUn, tCB, tCons, tNil, tCall, tMethK1, tCallK1, tPar3, tRet, tRetN, tDrop, tTest, tB, tC, tNext, tAugS, tAug, sFld1, sFldAug1, tMeth1, tMake, tMakeK1, tSl, tPart, tNoPart, sDPut1, tDPop, tBM, tBM0, tPar, gSub, tChain, tNot, tNotV, tDG1, tDG2, tDNewT1, iKeys1, iEnum1, iList1, iTup1, iRng1, iRng2, List.set_cons_zero, List.set_cons_succ]
                refine x_if ?_
                try dsimp only [tMethS1, tMethKS1, WE, tSeq, tAsg, gName, tOp, tUn, tCB, tCons, tNil, tCall, tMethK1, tCallK1, tPar3, tRet, tRetN, tDrop, tTest, tB, tC, tNext, tAugS, tAug, sFld1, sFldAug1, tMeth1, tMake, tMakeK1, tSl, tPart, tNoPart, sDPut1, tDPop, tBM, tBM0, tPar, gSub, tChain, tNot, tNotV, tDG1, tDG2, tDNewT1, iKeys1, iEnum1, iList1, iTup1, iRng1, iRng2, List.set_cons_zero, List.set_cons_succ]
                refine x_var (by exact rfl) ?_
                refine x_var (by exact rfl) ?_
                refine x_var (by exact rfl) ?_
                refine x_var (by exact rfl) ?_
                refine ⟨_, _, _, _, _, _, _, _, rfl, S.pre [(0, 0), (0, 1), (0, 4)], by omega, by omega, by omega, fun H F => ?_⟩
                have S := S.stay F
                refine ⟨_, rfl, ?_⟩
                refine iteF ?_
                exact ⟨_, _, _, _, _, _, _, _, _, _, _, _, _, _, _, rfl, by omega, by omega, hh, by omega, by omega, by omega, S.sub [0, 1, 2, 3, 4]⟩
              | false =>
                refine x_if ?_
                try dsimp only [tMethS1, tMethKS1, WE, tSeq, tAsg, gName, tOp, tUn, tCB, tCons, tNil, tCall, tMethK1, tCallK1, tPar3, tRet, tRetN, tDrop, tTest, tB, tC, tNext, tAugS, tAug, sFld1, sFldAug1, tMeth1, tMake, tMakeK1, tSl, tPart, tNoPart, sDPut1, tDPop, tBM, tBM0, tPar, gSub, tChain, tNot, tNotV, tDG1, tDG2, tDNewT1, iKeys1, iEnum1, iList1, iTup1, iRng1, iRng2, List.set_cons_zero, List.set_cons_succ]
                refine x_var (by exact rfl) ?_
                refine ⟨_, _, _, _, _, _, rfl, S.pre [(1, 0)], (fun hc => nomatch hc), (fun hc H e1 F => ?_)⟩
                have S := S.chg1 0 rfl F e1
                simp only [List.set_cons_zero, List.set_cons_succ] at S
                refine x_ifE ?_
                try dsimp only [tMethS1, tMethKS1, WE, tSeq, tAsg, gName, tOp, tUn, tCB, tCons, tNil, tCall, tMethK1, tCallK1, tPar3, tRet, tRetN, tDrop, tTest, tB, tC, tNext, tAugS, tAug, sFld1, sFldAug1, tMeth1, tMake, tMakeK1, tSl, tPart, tNoPart, sDPut1, tDPop, tBM, tBM0, tPar, gSub, tChain, tNot, tNotV, tDG1, tDG2, tDNewT1, iKeys1, iEnum1, iList1, iTup1, iRng1, iRng2, List.set_cons_zero, List.set_cons_succ]
                refine x_var (by exact rfl) ?_
                refine ⟨_, rfl, ?_⟩
                refine iteF ?_
                refine x_neK (b := false) (by decide) ?_
                refine ⟨_, rfl, ?_⟩
                refine iteF ?_
                try dsimp only [tMethS1, tMethKS1, WE, tSeq, tAsg, gName, tOp, tUn, tCB, tCons, tNil, tCall, tMethK1, tCallK1, tPar3, tRet, tRetN, tDrop, tTest, tB, tC, tNext, tAugS, tAug, sFld1, sFldAug1, tMeth1, tMake, tMakeK1, tSl, tPart, tNoPart, sDPut1, tDPop, tBM, tBM0, tPar, gSub, tChain, tNot, tNotV, tDG1, tDG2, tDNewT1, iKeys1, iEnum1, iList1, iTup1, iRng1, iRng2, List.set_cons_zero, List.set_cons_succ]
                try dsimp only [tMethS1, tMethKS1, WE, tSeq, tAsg, gName, tOp, tUn, tCB, tCons, tNil, tCall, tMethK1, tCallK1, tPar3, tRet, tRetN, tDrop, tTest, tB, tC, tNext, tAugS, tAug, sFld1, sFldAug1, tMeth1, tMake, tMakeK1, tSl, tPart, tNoPart, sDPut1, tDPop, tBM, tBM0, tPar, gSub, tChain, tNot, tNotV, tDG1, tDG2, tDNewT1, iKeys1, iEnum1, iList1, iTup1, iRng1, iRng2, List.set_cons_zero, List.set_cons_succ]
                refine x_if ?_
                try dsimp only [tMethS1, tMethKS1, WE, tSeq, tAsg, gName, tOp, tUn, tCB, tCons, tNil, tCall, tMethK1, tCallK1, tPar3, tRet, tRetN, tDrop, tTest, tB, tC, tNext, tAugS, tAug, sFld1, sFldAug1, tMeth1, tMake, tMakeK1, tSl, tPart, tNoPart, sDPut1, tDPop, tBM, tBM0, tPar, gSub, tChain, tNot, tNotV, tDG1, tDG2, tDNewT1, iKeys1, iEnum1, iList1, iTup1, iRng1, iRng2, List.set_cons_zero, List.set_cons_succ]
                refine x_var (by exact rfl) ?_
                refine x_var (by exact rfl) ?_
                refine x_var (by exact rfl) ?_
                refine x_var (by exact rfl) ?_
                refine ⟨_, _, _, _, _, _, _, _, rfl, S.pre [(0, 0), (0, 1), (0, 4)], by omega, by omega, by omega, fun H F => ?_⟩
                have S := S.stay F
                refine ⟨_, rfl, ?_⟩
                refine iteF ?_
                exact ⟨_, _, _, _, _, _, _, _, _, _, _, _, _, _, _, rfl, by omega, by omega, hh, by omega, by omega, by omega, S.sub [0, 1, 2, 3, 4]⟩
        · rintro σ H ⟨n, b, h, cs, ps, c, pl, q1, q2, q3, q4, q5, q6, q7, q8, rfl, hn, hi40, hh, hh0, hh1, hpl, S⟩
          try dsimp only [tMethS1, tMethKS1, WE, tSeq, tAsg, gName, tOp, tUn, tCB, tCons, tNil, tCall, tMethK1, tCallK1, tPar3, tRet, tRetN, tDrop, tTest, tB, tC, tNext, tAugS, tAug, sFld1, sFldAug1, tMeth1, tMake, tMakeK1, tSl, tPart, tNoPart, sDPut1, tDPop, tBM, tBM0, tPar, gSub, tChain, tNot, tNotV, tDG1, tDG2, tDNewT1, iKeys1, iEnum1, iList1, iTup1, iRng1, iRng2, List.set_cons_zero, List.set_cons_succ]
          try dsimp only [tMethS1, tMethKS1, WE, tSeq, tAsg, gName, tOp, tUn, tCB, tCons, tNil, tCall, tMethK1, tCallK1, tPar3, tRet, tRetN, tDrop, tTest, tB, tC, tNext, tAugS, tAug, sFld1, sFldAug1, tMeth1, tMake, tMakeK1, tSl, tPart, tNoPart, sDPut1, tDPop, tBM, tBM0, tPar, gSub, tChain, tNot, tNotV, tDG1, tDG2, tDNewT1, iKeys1, iEnum1, iList1, iTup1, iRng1, iRng2, List.set_cons_zero, List.set_cons_succ]
          exact k _
      · refine x_ifE ?_
        try dsimp only [tMethS1, tMethKS1, WE, tSeq, tAsg, gName, tOp, tUn, tCB, tCons, tNil, tCall, tMethK1, tCallK1, tPar3, tRet, tRetN, tDrop, tTest, tB, tC, tNext, tAugS, tAug, sFld1, sFldAug1, tMeth1, tMake, tMakeK1, tSl, tPart, tNoPart, sDPut1, tDPop, tBM, tBM0, tPar, gSub, tChain, tNot, tNotV, tDG1, tDG2, tDNewT1, iKeys1, iEnum1, iList1, iTup1, iRng1, iRng2, List.set_cons_zero, List.set_cons_succ]
        refine x_and ?_
        try dsimp only [tMethS1, tMethKS1, WE, tSeq, tAsg, gName, tOp, tUn, tCB, tCons, tNil, tCall, tMethK1, tCallK1, tPar3, tRet, tRetN, tDrop, tTest, tB, tC, tNext, tAugS, tAug, sFld1, sFldAug1, tMeth1, tMake, tMakeK1, tSl, tPart, tNoPart, sDPut1, tDPop, tBM, tBM0, tPar, gSub, tChain, tNot, tNotV, tDG1, tDG2, tDNewT1, iKeys1, iEnum1, iList1, iTup1, iRng1, iRng2, List.set_cons_zero, List.set_cons_succ]
        refine x_var (by exact rfl) ?_
        refine x_eq ?_
        refine ⟨_, rfl, ?_⟩
        refine iteq (fun c61 => ?_) (fun c61 => ?_)
        · refine x_var (by exact rfl) ?_
          refine c_draw S 0 1 (by exact rfl) (by exact rfl) hh (by first | omega | decide | (simp only [len_insAt, List.length_map, List.length_append, List.length_cons, List.length_nil, List.length_take, List.length_drop] at *; omega)) (by first | omega | decide | (simp only [len_insAt, List.length_map, List.length_append, List.length_cons, List.length_nil, List.length_take, List.length_drop] at *; omega)) (by first | omega | decide | (simp only [len_insAt, List.length_map, List.length_append, List.length_cons, List.length_nil, List.length_take, List.length_drop] at *; omega)) (fun r61 cs61 H r61a r61b hh S => ?_)
          simp only [List.set_cons_zero, List.set_cons_succ] at S
          refine x_eq ?_
          refine ⟨_, rfl, ?_⟩
          refine iteq (fun c62 => ?_) (fun c62 => ?_)
          · have hw4 := c61
            obtain rfl : w1 = 4 := c61
            refine c_mkGiver0 S (fun gv61 xgv61 gl61 H S => ?_)
            exact KK _ _ ⟨_, _, _, _, _, rfl, by omega, hh, S.sub [1, 0, 2, 3]⟩
          · refine x_var (by exact rfl) ?_
            refine c_mkGiver S (fun gv62 xgv62 gl62 H S => ?_)
            exact KK _ _ ⟨_, _, _, _, _, rfl, by omega, hh, S.sub [1, 0, 2, 3]⟩
        · refine iteF ?_
          refine x_var (by exact rfl) ?_
          refine c_mkGiver S (fun gv63 xgv63 gl63 H S => ?_)
          exact KK _ _ ⟨_, _, _, _, _, rfl, by omega, hh, S.sub [1, 0, 2, 3]⟩
    · refine x_ifE ?_
      try dsimp only [tMethS1, tMethKS1, WE, tSeq, tAsg, gName, tOp, tUn, tCB, tCons, tNil, tCall, tMethK1, tCallK1, tPar3, tRet, tRetN, tDrop, tTest, tB, tC, tNext, tAugS, tAug, sFld1, sFldAug1, tMeth1, tMake, tMakeK1, tSl, tPart, tNoPart, sDPut1, tDPop, tBM, tBM0, tPar, gSub, tChain, tNot, tNotV, tDG1, tDG2, tDNewT1, iKeys1, iEnum1, iList1, iTup1, iRng1, iRng2, List.set_cons_zero, List.set_cons_succ]
      refine x_var (by exact rfl) ?_
      refine x_lst S (by exact Nat.le_of_ble_eq_true rfl) (fun L51 H S => ?_)
      refine x_neSq (ys := []) (S.sq hs (by simp)) (S.sl 0 (by exact (by exact rfl))) ?_
      refine ⟨_, rfl, ?_⟩
      refine itend (fun c51 => ?_) (fun c51 => ?_)
      · refine x_var (by exact rfl) ?_
        refine x_listS S (S.sq hs (by simp)) (fun l1 H S => ?_)
        exact KK _ _ ⟨_, ns, rfl, ⟨c51, hl, Int.le_refl _⟩, S.sub [0]⟩
      · refine x_lst S (by exact Nat.le_of_ble_eq_true rfl) (fun L52 H S => ?_)
        exact KK _ _ ⟨_, [0], rfl, ⟨by simp, by decide, Int.le_refl _⟩, S.sub [0]⟩
end
end G

set_option linter.all false
set_option maxRecDepth 100000
set_option maxHeartbeats 4000000
namespace G
open PySem PySem.Spec PyProof.Rows L2
theorem all_mk {l : PySem.W.OpenLaw} {w : World} {K : PySem.W.Frag} {h : Heap} {mg : Str → Option Value} {fa C_Giver f1 f2 f3 f4 f5 f6 f7 f8 f9 f10 f11 f12 f13 f14 f15 f16 f17 f18 E_Shut E_NoRoom E_FarError E_BadFrame E_BadWire E_BadService E_BadPlan E_NoHouse E_NoCall E_Ended E_NoTask E_NoDeed E_Broken E_BadText : Addr} (X : K.In h) (G : h.Ns mainGlobals mg) (hfa : mg "law" = some (.ref fa))
    {od1 an1 od2 an2 od3 an3 od4 an4 od5 an5 od6 an6 od7 an7 od8 an8 od9 an9 od10 an10 od11 an11 od12 an12 od13 an13 od14 an14 od15 an15 od16 an16 od17 an17 od18 an18 : Option Addr} {sl1 sl2 sl3 sl4 sl5 sl6 sl7 sl8 sl9 sl10 sl11 sl12 sl13 sl14 sl15 sl16 sl17 sl18 : Array (Option Value)}
    {D1 : Addr}
    {oc1 dc1 pm1 cd1 ct1 oc2 kV2 dc2 pm2 cd2 ct2 oc3 kV3 dc3 pm3 cd3 ct3 oc4 kV4 dc4 pm4 cd4 ct4 oc5 kV5 dc5 pm5 cd5 ct5 oc6 kV6 dc6 pm6 cd6 ct6 oc7 kV7 dc7 pm7 cd7 ct7 oc8 kV8 dc8 pm8 cd8 ct8 oc9 kV9 dc9 pm9 cd9 ct9 oc10 kV10 dc10 pm10 cd10 ct10 oc11 kV11 dc11 pm11 cd11 ct11 oc12 kV12 dc12 pm12 cd12 ct12 oc13 kV13 dc13 pm13 cd13 ct13 oc14 kV14 dc14 pm14 cd14 ct14 oc15 kV15 dc15 pm15 cd15 ct15 oc16 kV16 dc16 pm16 cd16 ct16 oc17 kV17 dc17 pm17 cd17 ct17 oc18 kV18 dc18 pm18 cd18 ct18 : Value} {tk1 : Tok}
    (g_Giver : PySem.W.nsIn K mainGlobals "Giver" = some (some (.ref C_Giver)))
    (pg_Giver : PySem.W.plainGet K C_Giver Str.empty = true)
    (hd_Giver : PySem.W.hasDictIn K C_Giver = true)
    (po_Giver : PySem.W.plainOver K C_Giver = true)
    (sa_Giver : PySem.W.findIn K (.ref C_Giver) "__setattr__" = some (some (.builtin "object.__setattr__")))
    (mk_Giver : PySem.W.makesIn K C_Giver = true)
    (kc_Giver : PySem.W.keepIn K (.ref C_Giver) = true)
    (na_Giver_below : PySem.W.findIn K (.ref C_Giver) "below" = some none)
    (na_Giver_behind : PySem.W.findIn K (.ref C_Giver) "behind" = some none)
    (na_Giver_pieces : PySem.W.findIn K (.ref C_Giver) "pieces" = some none)
    (na_Giver_closed : PySem.W.findIn K (.ref C_Giver) "closed" = some none)
    (m1 : PySem.W.findIn K (.ref C_Giver) "__init__" = some (some (.ref f1)))
    (i1 : PySem.W.isFn K (.ref f1) = true)
    (l1 : K.lookup f1 = some ⟨oc1, od1, .func (PySem.W.fnOf "__init__" "Giver.__init__" (defArgs s_Giver__init) (defBody s_Giver__init) (defScope s_Giver__init) .none (.ref D1) dc1 pm1 an1 cd1 ct1), sl1⟩)
    (c1 : PySem.W.codeIn K cd1 "Giver.__init__" = true)
    (k1 : PySem.W.keepIn K (.ref f1) = true)
    (d1 : PySem.W.nsIn K D1 "window" = some (some (.int 4 tk1)))
    (m2 : PySem.W.findIn K (.ref C_Giver) "put" = some (some (.ref f2)))
    (i2 : PySem.W.isFn K (.ref f2) = true)
    (l2 : K.lookup f2 = some ⟨oc2, od2, .func (PySem.W.fnOf "put" "Giver.put" (defArgs s_Giver_put) (defBody s_Giver_put) (defScope s_Giver_put) .none kV2 dc2 pm2 an2 cd2 ct2), sl2⟩)
    (c2 : PySem.W.codeIn K cd2 "Giver.put" = true)
    (k2 : PySem.W.keepIn K (.ref f2) = true)
    (m3 : PySem.W.findIn K (.ref C_Giver) "shut" = some (some (.ref f3)))
    (i3 : PySem.W.isFn K (.ref f3) = true)
    (l3 : K.lookup f3 = some ⟨oc3, od3, .func (PySem.W.fnOf "shut" "Giver.shut" (defArgs s_Giver_shut) (defBody s_Giver_shut) (defScope s_Giver_shut) .none kV3 dc3 pm3 an3 cd3 ct3), sl3⟩)
    (c3 : PySem.W.codeIn K cd3 "Giver.shut" = true)
    (k3 : PySem.W.keepIn K (.ref f3) = true)
    (m4 : PySem.W.findIn K (.ref C_Giver) "heard" = some (some (.ref f4)))
    (i4 : PySem.W.isFn K (.ref f4) = true)
    (l4 : K.lookup f4 = some ⟨oc4, od4, .func (PySem.W.fnOf "heard" "Giver.heard" (defArgs s_Giver_heard) (defBody s_Giver_heard) (defScope s_Giver_heard) .none kV4 dc4 pm4 an4 cd4 ct4), sl4⟩)
    (c4 : PySem.W.codeIn K cd4 "Giver.heard" = true)
    (k4 : PySem.W.keepIn K (.ref f4) = true)
    (m5 : PySem.W.findIn K (.ref C_Giver) "wanted" = some (some (.ref f5)))
    (i5 : PySem.W.isFn K (.ref f5) = true)
    (l5 : K.lookup f5 = some ⟨oc5, od5, .func (PySem.W.fnOf "wanted" "Giver.wanted" (defArgs s_Giver_wanted) (defBody s_Giver_wanted) (defScope s_Giver_wanted) .none kV5 dc5 pm5 an5 cd5 ct5), sl5⟩)
    (c5 : PySem.W.codeIn K cd5 "Giver.wanted" = true)
    (k5 : PySem.W.keepIn K (.ref f5) = true)
    (m6 : PySem.W.findIn K (.ref C_Giver) "many" = some (some (.ref f6)))
    (i6 : PySem.W.isFn K (.ref f6) = true)
    (l6 : K.lookup f6 = some ⟨oc6, od6, .func (PySem.W.fnOf "many" "Giver.many" (defArgs s_Giver_many) (defBody s_Giver_many) (defScope s_Giver_many) .none kV6 dc6 pm6 an6 cd6 ct6), sl6⟩)
    (c6 : PySem.W.codeIn K cd6 "Giver.many" = true)
    (k6 : PySem.W.keepIn K (.ref f6) = true)
    (m7 : PySem.W.findIn K (.ref C_Giver) "is_shut" = some (some (.ref f7)))
    (i7 : PySem.W.isFn K (.ref f7) = true)
    (l7 : K.lookup f7 = some ⟨oc7, od7, .func (PySem.W.fnOf "is_shut" "Giver.is_shut" (defArgs s_Giver_is_shut) (defBody s_Giver_is_shut) (defScope s_Giver_is_shut) .none kV7 dc7 pm7 an7 cd7 ct7), sl7⟩)
    (c7 : PySem.W.codeIn K cd7 "Giver.is_shut" = true)
    (k7 : PySem.W.keepIn K (.ref f7) = true)
    (a8 : PySem.W.nsIn K mainGlobals "_law_draw" = some (some (.ref f8)))
    (l8 : K.lookup f8 = some ⟨oc8, od8, .func (PySem.W.fnOf "_law_draw" "_law_draw" (defArgs s_law_draw) (defBody s_law_draw) (defScope s_law_draw) .none kV8 dc8 pm8 an8 cd8 ct8), sl8⟩)
    (c8 : PySem.W.codeIn K cd8 "_law_draw" = true)
    (k8 : PySem.W.keepIn K (.ref f8) = true)
    (a9 : PySem.W.nsIn K mainGlobals "_law_is" = some (some (.ref f9)))
    (l9 : K.lookup f9 = some ⟨oc9, od9, .func (PySem.W.fnOf "_law_is" "_law_is" (defArgs s_law_is) (defBody s_law_is) (defScope s_law_is) .none kV9 dc9 pm9 an9 cd9 ct9), sl9⟩)
    (c9 : PySem.W.codeIn K cd9 "_law_is" = true)
    (k9 : PySem.W.keepIn K (.ref f9) = true)
    (a10 : PySem.W.nsIn K mainGlobals "_law_truth" = some (some (.ref f10)))
    (l10 : K.lookup f10 = some ⟨oc10, od10, .func (PySem.W.fnOf "_law_truth" "_law_truth" (defArgs s_law_truth) (defBody s_law_truth) (defScope s_law_truth) .none kV10 dc10 pm10 an10 cd10 ct10), sl10⟩)
    (c10 : PySem.W.codeIn K cd10 "_law_truth" = true)
    (k10 : PySem.W.keepIn K (.ref f10) = true)
    (a11 : PySem.W.nsIn K mainGlobals "_law_value" = some (some (.ref f11)))
    (l11 : K.lookup f11 = some ⟨oc11, od11, .func (PySem.W.fnOf "_law_value" "_law_value" (defArgs s_law_value) (defBody s_law_value) (defScope s_law_value) .none kV11 dc11 pm11 an11 cd11 ct11), sl11⟩)
    (c11 : PySem.W.codeIn K cd11 "_law_value" = true)
    (k11 : PySem.W.keepIn K (.ref f11) = true)
    (a12 : PySem.W.nsIn K mainGlobals "_law_wide" = some (some (.ref f12)))
    (l12 : K.lookup f12 = some ⟨oc12, od12, .func (PySem.W.fnOf "_law_wide" "_law_wide" (defArgs s_law_wide) (defBody s_law_wide) (defScope s_law_wide) .none kV12 dc12 pm12 an12 cd12 ct12), sl12⟩)
    (c12 : PySem.W.codeIn K cd12 "_law_wide" = true)
    (k12 : PySem.W.keepIn K (.ref f12) = true)
    (a13 : PySem.W.nsIn K mainGlobals "_law_kinds" = some (some (.ref f13)))
    (l13 : K.lookup f13 = some ⟨oc13, od13, .func (PySem.W.fnOf "_law_kinds" "_law_kinds" (defArgs s_law_kinds) (defBody s_law_kinds) (defScope s_law_kinds) .none kV13 dc13 pm13 an13 cd13 ct13), sl13⟩)
    (c13 : PySem.W.codeIn K cd13 "_law_kinds" = true)
    (k13 : PySem.W.keepIn K (.ref f13) = true)
    (a14 : PySem.W.nsIn K mainGlobals "_law_word" = some (some (.ref f14)))
    (l14 : K.lookup f14 = some ⟨oc14, od14, .func (PySem.W.fnOf "_law_word" "_law_word" (defArgs s_law_word) (defBody s_law_word) (defScope s_law_word) .none kV14 dc14 pm14 an14 cd14 ct14), sl14⟩)
    (c14 : PySem.W.codeIn K cd14 "_law_word" = true)
    (k14 : PySem.W.keepIn K (.ref f14) = true)
    (a15 : PySem.W.nsIn K mainGlobals "_law_put" = some (some (.ref f15)))
    (l15 : K.lookup f15 = some ⟨oc15, od15, .func (PySem.W.fnOf "_law_put" "_law_put" (defArgs s_law_put) (defBody s_law_put) (defScope s_law_put) .none kV15 dc15 pm15 an15 cd15 ct15), sl15⟩)
    (c15 : PySem.W.codeIn K cd15 "_law_put" = true)
    (k15 : PySem.W.keepIn K (.ref f15) = true)
    (a16 : PySem.W.nsIn K mainGlobals "_law_shut" = some (some (.ref f16)))
    (l16 : K.lookup f16 = some ⟨oc16, od16, .func (PySem.W.fnOf "_law_shut" "_law_shut" (defArgs s_law_shut) (defBody s_law_shut) (defScope s_law_shut) .none kV16 dc16 pm16 an16 cd16 ct16), sl16⟩)
    (c16 : PySem.W.codeIn K cd16 "_law_shut" = true)
    (k16 : PySem.W.keepIn K (.ref f16) = true)
    (a17 : PySem.W.nsIn K mainGlobals "_law_right" = some (some (.ref f17)))
    (l17 : K.lookup f17 = some ⟨oc17, od17, .func (PySem.W.fnOf "_law_right" "_law_right" (defArgs s_law_right) (defBody s_law_right) (defScope s_law_right) .none kV17 dc17 pm17 an17 cd17 ct17), sl17⟩)
    (c17 : PySem.W.codeIn K cd17 "_law_right" = true)
    (k17 : PySem.W.keepIn K (.ref f17) = true)
    (a18 : PySem.W.nsIn K mainGlobals "law" = some (some (.ref f18)))
    (l18 : K.lookup f18 = some ⟨oc18, od18, .func (PySem.W.fnOf "law" "law" (defArgs s_law) (defBody s_law) (defScope s_law) .none kV18 dc18 pm18 an18 cd18 ct18), sl18⟩)
    (c18 : PySem.W.codeIn K cd18 "law" = true)
    (k18 : PySem.W.keepIn K (.ref f18) = true)
    (eg_Shut : PySem.W.nsIn K mainGlobals "Shut" = some (some (.ref E_Shut)))
    (eq_Shut : PySem.W.excIn K E_Shut [.type "ValueError", .type "Exception", .type "BaseException", .type "object"] "ValueError.__new__" = true)
    (ek_Shut : PySem.W.keepIn K (.ref E_Shut) = true)
    (es_Shut : PySem.W.subIn K (.ref E_Shut) (.type "BaseException") = some true)
    (et_Shut : PySem.W.typeIn K (.ref E_Shut) = some (.type "type"))
    (ei_Shut : PySem.W.isClsIn K E_Shut = true)
    (ex_Shut : PySem.W.subIn K (.ref E_Shut) (.ref E_Shut) = some true)
    (eg_NoRoom : PySem.W.nsIn K mainGlobals "NoRoom" = some (some (.ref E_NoRoom)))
    (eq_NoRoom : PySem.W.excIn K E_NoRoom [.type "ValueError", .type "Exception", .type "BaseException", .type "object"] "ValueError.__new__" = true)
    (ek_NoRoom : PySem.W.keepIn K (.ref E_NoRoom) = true)
    (es_NoRoom : PySem.W.subIn K (.ref E_NoRoom) (.type "BaseException") = some true)
    (et_NoRoom : PySem.W.typeIn K (.ref E_NoRoom) = some (.type "type"))
    (ei_NoRoom : PySem.W.isClsIn K E_NoRoom = true)
    (ex_NoRoom : PySem.W.subIn K (.ref E_NoRoom) (.ref E_NoRoom) = some true)
    (eg_FarError : PySem.W.nsIn K mainGlobals "FarError" = some (some (.ref E_FarError)))
    (eg_BadFrame : PySem.W.nsIn K mainGlobals "BadFrame" = some (some (.ref E_BadFrame)))
    (eg_BadWire : PySem.W.nsIn K mainGlobals "BadWire" = some (some (.ref E_BadWire)))
    (eg_BadService : PySem.W.nsIn K mainGlobals "BadService" = some (some (.ref E_BadService)))
    (eg_BadPlan : PySem.W.nsIn K mainGlobals "BadPlan" = some (some (.ref E_BadPlan)))
    (eg_NoHouse : PySem.W.nsIn K mainGlobals "NoHouse" = some (some (.ref E_NoHouse)))
    (eg_NoCall : PySem.W.nsIn K mainGlobals "NoCall" = some (some (.ref E_NoCall)))
    (eg_Ended : PySem.W.nsIn K mainGlobals "Ended" = some (some (.ref E_Ended)))
    (eg_NoTask : PySem.W.nsIn K mainGlobals "NoTask" = some (some (.ref E_NoTask)))
    (eg_NoDeed : PySem.W.nsIn K mainGlobals "NoDeed" = some (some (.ref E_NoDeed)))
    (eg_Broken : PySem.W.nsIn K mainGlobals "Broken" = some (some (.ref E_Broken)))
    (eg_BadText : PySem.W.nsIn K mainGlobals "BadText" = some (some (.ref E_BadText)))
    (es_FarError : PySem.W.subIn K (.ref E_FarError) (.type "BaseException") = some true)
    (et_FarError : PySem.W.typeIn K (.ref E_FarError) = some (.type "type"))
    (ei_FarError : PySem.W.isClsIn K E_FarError = true)
    (ef_Shut : PySem.W.subIn K (.ref E_Shut) (.ref E_FarError) = some true)
    (ga_Shut : PySem.W.findIn K (.ref E_Shut) "__getattribute__" = some (some (.builtin "BaseException.__getattribute__")))
    (gb_Shut : PySem.W.findIn K (.ref E_Shut) "__getattr__" = some none)
    (hd_Shut : PySem.W.hasDictIn K E_Shut = true)
    (ha_Shut : PySem.W.findIn K (.ref E_Shut) "__class__" = some (some (.builtin "object.__class__")))
    (hm_Shut : PySem.W.mroIn K E_Shut (.type "object") = some true)
    (kt_Shut_FarError : PySem.W.kitOne K (.ref E_Shut) (.ref E_FarError) = some true)
    (kt_Shut_ValueError : PySem.W.kitOne K (.ref E_Shut) (.type "ValueError") = some true)
    (kt_Shut_Shut : PySem.W.kitOne K (.ref E_Shut) (.ref E_Shut) = some true)
    (kt_Shut_NoRoom : PySem.W.kitOne K (.ref E_Shut) (.ref E_NoRoom) = some false)
    (kt_Shut_BadFrame : PySem.W.kitOne K (.ref E_Shut) (.ref E_BadFrame) = some false)
    (kt_Shut_BadWire : PySem.W.kitOne K (.ref E_Shut) (.ref E_BadWire) = some false)
    (kt_Shut_BadService : PySem.W.kitOne K (.ref E_Shut) (.ref E_BadService) = some false)
    (kt_Shut_BadPlan : PySem.W.kitOne K (.ref E_Shut) (.ref E_BadPlan) = some false)
    (kt_Shut_NoHouse : PySem.W.kitOne K (.ref E_Shut) (.ref E_NoHouse) = some false)
    (kt_Shut_NoCall : PySem.W.kitOne K (.ref E_Shut) (.ref E_NoCall) = some false)
    (kt_Shut_Ended : PySem.W.kitOne K (.ref E_Shut) (.ref E_Ended) = some false)
    (kt_Shut_NoTask : PySem.W.kitOne K (.ref E_Shut) (.ref E_NoTask) = some false)
    (kt_Shut_NoDeed : PySem.W.kitOne K (.ref E_Shut) (.ref E_NoDeed) = some false)
    (kt_Shut_Broken : PySem.W.kitOne K (.ref E_Shut) (.ref E_Broken) = some false)
    (kt_Shut_BadText : PySem.W.kitOne K (.ref E_Shut) (.ref E_BadText) = some false)
    (ef_NoRoom : PySem.W.subIn K (.ref E_NoRoom) (.ref E_FarError) = some true)
    (ga_NoRoom : PySem.W.findIn K (.ref E_NoRoom) "__getattribute__" = some (some (.builtin "BaseException.__getattribute__")))
    (gb_NoRoom : PySem.W.findIn K (.ref E_NoRoom) "__getattr__" = some none)
    (hd_NoRoom : PySem.W.hasDictIn K E_NoRoom = true)
    (ha_NoRoom : PySem.W.findIn K (.ref E_NoRoom) "__class__" = some (some (.builtin "object.__class__")))
    (hm_NoRoom : PySem.W.mroIn K E_NoRoom (.type "object") = some true)
    (kt_NoRoom_FarError : PySem.W.kitOne K (.ref E_NoRoom) (.ref E_FarError) = some true)
    (kt_NoRoom_ValueError : PySem.W.kitOne K (.ref E_NoRoom) (.type "ValueError") = some true)
    (kt_NoRoom_Shut : PySem.W.kitOne K (.ref E_NoRoom) (.ref E_Shut) = some false)
    (kt_NoRoom_NoRoom : PySem.W.kitOne K (.ref E_NoRoom) (.ref E_NoRoom) = some true)
    (kt_NoRoom_BadFrame : PySem.W.kitOne K (.ref E_NoRoom) (.ref E_BadFrame) = some false)
    (kt_NoRoom_BadWire : PySem.W.kitOne K (.ref E_NoRoom) (.ref E_BadWire) = some false)
    (kt_NoRoom_BadService : PySem.W.kitOne K (.ref E_NoRoom) (.ref E_BadService) = some false)
    (kt_NoRoom_BadPlan : PySem.W.kitOne K (.ref E_NoRoom) (.ref E_BadPlan) = some false)
    (kt_NoRoom_NoHouse : PySem.W.kitOne K (.ref E_NoRoom) (.ref E_NoHouse) = some false)
    (kt_NoRoom_NoCall : PySem.W.kitOne K (.ref E_NoRoom) (.ref E_NoCall) = some false)
    (kt_NoRoom_Ended : PySem.W.kitOne K (.ref E_NoRoom) (.ref E_Ended) = some false)
    (kt_NoRoom_NoTask : PySem.W.kitOne K (.ref E_NoRoom) (.ref E_NoTask) = some false)
    (kt_NoRoom_NoDeed : PySem.W.kitOne K (.ref E_NoRoom) (.ref E_NoDeed) = some false)
    (kt_NoRoom_Broken : PySem.W.kitOne K (.ref E_NoRoom) (.ref E_Broken) = some false)
    (kt_NoRoom_BadText : PySem.W.kitOne K (.ref E_NoRoom) (.ref E_BadText) = some false)
    (hn_c : PySem.W.specialIn K (.builtin "object.__class__") "__get__" = some (some (.builtin "getset_descriptor.__get__")))
    (ht_c : PySem.W.takesIn K (.builtin "object.__class__") = some true)
    (z_len : PySem.W.nsIn K mainGlobals "len" = some none)
    (z_list : PySem.W.nsIn K mainGlobals "list" = some none)
    (z_range : PySem.W.nsIn K mainGlobals "range" = some none)
    (z_min : PySem.W.nsIn K mainGlobals "min" = some none)
    (z_max : PySem.W.nsIn K mainGlobals "max" = some none)
    (z_isinstance : PySem.W.nsIn K mainGlobals "isinstance" = some none)
    (z_int : PySem.W.nsIn K mainGlobals "int" = some none)
    (z_bool : PySem.W.nsIn K mainGlobals "bool" = some none)
    (z_enumerate : PySem.W.nsIn K mainGlobals "enumerate" = some none)
    (z_ValueError : PySem.W.nsIn K mainGlobals "ValueError" = some none)
    : ∃ fd : FuncData, (∀ (s : Shared) (v : Value), BindsTo s fd ⟨[v], []⟩ [("_law_script", v)]) ∧ ∀ base : Heap, K.In base → base.Ns mainGlobals mg → FnOk l.prog w K mg base CX0 4 fa fd ["_law_script"] (spLaw K) := by
  have e := hfa.symm.trans (PySem.W.mg_of X G a18)
  cases e
  have cl_Giver : Cls K C_Giver := ⟨pg_Giver, hd_Giver, po_Giver, sa_Giver⟩
  have F_Giver__init := fun_mk (st := s_Giver__init) l1 c1 k1
  have M_Giver : Mk K C_Giver f1 := ⟨mk_Giver, m1, i1, kc_Giver⟩
  have F_Giver_put := fun_mk (st := s_Giver_put) l2 c2 k2
  have b_Giver_put := F_Giver_put.binds (ps := ["self", "value"]) fun _ _ _ _ _ _ us hl => match us, hl with | [_, _], _ => rfl
  have me_Giver_put : L2.Meth K C_Giver "put" f2 := ⟨m2, i2, k2⟩
  have F_Giver_shut := fun_mk (st := s_Giver_shut) l3 c3 k3
  have b_Giver_shut := F_Giver_shut.binds (ps := ["self"]) fun _ _ _ _ _ _ us hl => match us, hl with | [_], _ => rfl
  have me_Giver_shut : L2.Meth K C_Giver "shut" f3 := ⟨m3, i3, k3⟩
  have F_Giver_heard := fun_mk (st := s_Giver_heard) l4 c4 k4
  have b_Giver_heard := F_Giver_heard.binds (ps := ["self", "got", "room"]) fun _ _ _ _ _ _ us hl => match us, hl with | [_, _, _], _ => rfl
  have me_Giver_heard : L2.Meth K C_Giver "heard" f4 := ⟨m4, i4, k4⟩
  have F_Giver_wanted := fun_mk (st := s_Giver_wanted) l5 c5 k5
  have b_Giver_wanted := F_Giver_wanted.binds (ps := ["self"]) fun _ _ _ _ _ _ us hl => match us, hl with | [_], _ => rfl
  have me_Giver_wanted : L2.Meth K C_Giver "wanted" f5 := ⟨m5, i5, k5⟩
  have F_Giver_many := fun_mk (st := s_Giver_many) l6 c6 k6
  have b_Giver_many := F_Giver_many.binds (ps := ["self"]) fun _ _ _ _ _ _ us hl => match us, hl with | [_], _ => rfl
  have me_Giver_many : L2.Meth K C_Giver "many" f6 := ⟨m6, i6, k6⟩
  have F_Giver_is_shut := fun_mk (st := s_Giver_is_shut) l7 c7 k7
  have b_Giver_is_shut := F_Giver_is_shut.binds (ps := ["self"]) fun _ _ _ _ _ _ us hl => match us, hl with | [_], _ => rfl
  have me_Giver_is_shut : L2.Meth K C_Giver "is_shut" f7 := ⟨m7, i7, k7⟩
  have gC_Giver : mg "Giver" = some (.ref C_Giver) := PySem.W.mg_of X G g_Giver
  have F_law_draw := fun_mk (st := s_law_draw) l8 c8 k8
  have b_law_draw := F_law_draw.binds (ps := ["_law_hold", "_law_many"]) fun _ _ _ _ _ _ us hl => match us, hl with | [_, _], _ => rfl
  have g_law_draw : mg "_law_draw" = some (.ref f8) := PySem.W.mg_of X G a8
  have F_law_is := fun_mk (st := s_law_is) l9 c9 k9
  have b_law_is := F_law_is.binds (ps := ["_law_found", "_law_due"]) fun _ _ _ _ _ _ us hl => match us, hl with | [_, _], _ => rfl
  have g_law_is : mg "_law_is" = some (.ref f9) := PySem.W.mg_of X G a9
  have F_law_truth := fun_mk (st := s_law_truth) l10 c10 k10
  have b_law_truth := F_law_truth.binds (ps := ["_law_found", "_law_due"]) fun _ _ _ _ _ _ us hl => match us, hl with | [_, _], _ => rfl
  have g_law_truth : mg "_law_truth" = some (.ref f10) := PySem.W.mg_of X G a10
  have F_law_value := fun_mk (st := s_law_value) l11 c11 k11
  have b_law_value := F_law_value.binds (ps := ["_law_hold"]) fun _ _ _ _ _ _ us hl => match us, hl with | [_], _ => rfl
  have g_law_value : mg "_law_value" = some (.ref f11) := PySem.W.mg_of X G a11
  have F_law_wide := fun_mk (st := s_law_wide) l12 c12 k12
  have b_law_wide := F_law_wide.binds (ps := ["_law_hold"]) fun _ _ _ _ _ _ us hl => match us, hl with | [_], _ => rfl
  have g_law_wide : mg "_law_wide" = some (.ref f12) := PySem.W.mg_of X G a12
  have F_law_kinds := fun_mk (st := s_law_kinds) l13 c13 k13
  have b_law_kinds := F_law_kinds.binds (ps := ["_law_e"]) fun _ _ _ _ _ _ us hl => match us, hl with | [_], _ => rfl
  have g_law_kinds : mg "_law_kinds" = some (.ref f13) := PySem.W.mg_of X G a13
  have F_law_word := fun_mk (st := s_law_word) l14 c14 k14
  have b_law_word := F_law_word.binds (ps := ["_law_caught", "_law_found"]) fun _ _ _ _ _ _ us hl => match us, hl with | [_, _], _ => rfl
  have g_law_word : mg "_law_word" = some (.ref f14) := PySem.W.mg_of X G a14
  have F_law_put := fun_mk (st := s_law_put) l15 c15 k15
  have b_law_put := F_law_put.binds (ps := ["_law_giver", "_law_piece"]) fun _ _ _ _ _ _ us hl => match us, hl with | [_, _], _ => rfl
  have g_law_put : mg "_law_put" = some (.ref f15) := PySem.W.mg_of X G a15
  have F_law_shut := fun_mk (st := s_law_shut) l16 c16 k16
  have b_law_shut := F_law_shut.binds (ps := ["_law_giver"]) fun _ _ _ _ _ _ us hl => match us, hl with | [_], _ => rfl
  have g_law_shut : mg "_law_shut" = some (.ref f16) := PySem.W.mg_of X G a16
  have F_law_right := fun_mk (st := s_law_right) l17 c17 k17
  have b_law_right := F_law_right.binds (ps := ["_law_giver", "_law_pieces", "_law_had", "_law_closed"]) fun _ _ _ _ _ _ us hl => match us, hl with | [_, _, _, _], _ => rfl
  have g_law_right : mg "_law_right" = some (.ref f17) := PySem.W.mg_of X G a17
  have F_law := fun_mk (st := s_law) l18 c18 k18
  have b_law := F_law.binds (ps := ["_law_script"]) fun _ _ _ _ _ _ us hl => match us, hl with | [_], _ => rfl
  have cShut : ExcC K mg "Shut" E_Shut := ⟨PySem.W.mg_of X G eg_Shut, eq_Shut, ek_Shut, es_Shut, et_Shut⟩
  have xShut : PySem.W.exmOne K (.ref E_Shut) (.ref E_Shut) = some true := exm_sub es_Shut ei_Shut et_Shut ex_Shut
  have cNoRoom : ExcC K mg "NoRoom" E_NoRoom := ⟨PySem.W.mg_of X G eg_NoRoom, eq_NoRoom, ek_NoRoom, es_NoRoom, et_NoRoom⟩
  have xNoRoom : PySem.W.exmOne K (.ref E_NoRoom) (.ref E_NoRoom) = some true := exm_sub es_NoRoom ei_NoRoom et_NoRoom ex_NoRoom
  have gFarError : mg "FarError" = some (.ref E_FarError) := PySem.W.mg_of X G eg_FarError
  have gShut : mg "Shut" = some (.ref E_Shut) := PySem.W.mg_of X G eg_Shut
  have gNoRoom : mg "NoRoom" = some (.ref E_NoRoom) := PySem.W.mg_of X G eg_NoRoom
  have gBadFrame : mg "BadFrame" = some (.ref E_BadFrame) := PySem.W.mg_of X G eg_BadFrame
  have gBadWire : mg "BadWire" = some (.ref E_BadWire) := PySem.W.mg_of X G eg_BadWire
  have gBadService : mg "BadService" = some (.ref E_BadService) := PySem.W.mg_of X G eg_BadService
  have gBadPlan : mg "BadPlan" = some (.ref E_BadPlan) := PySem.W.mg_of X G eg_BadPlan
  have gNoHouse : mg "NoHouse" = some (.ref E_NoHouse) := PySem.W.mg_of X G eg_NoHouse
  have gNoCall : mg "NoCall" = some (.ref E_NoCall) := PySem.W.mg_of X G eg_NoCall
  have gEnded : mg "Ended" = some (.ref E_Ended) := PySem.W.mg_of X G eg_Ended
  have gNoTask : mg "NoTask" = some (.ref E_NoTask) := PySem.W.mg_of X G eg_NoTask
  have gNoDeed : mg "NoDeed" = some (.ref E_NoDeed) := PySem.W.mg_of X G eg_NoDeed
  have gBroken : mg "Broken" = some (.ref E_Broken) := PySem.W.mg_of X G eg_Broken
  have gBadText : mg "BadText" = some (.ref E_BadText) := PySem.W.mg_of X G eg_BadText
  have xFS : PySem.W.exmOne K (.ref E_Shut) (.ref E_FarError) = some true := exm_sub es_FarError ei_FarError et_FarError ef_Shut
  have xFN : PySem.W.exmOne K (.ref E_NoRoom) (.ref E_FarError) = some true := exm_sub es_FarError ei_FarError et_FarError ef_NoRoom
  have xcS : _root_.L2.ExcC K E_Shut := ⟨ga_Shut, gb_Shut, es_Shut, hd_Shut, ha_Shut, hn_c, ht_c, hm_Shut⟩
  have kdS : Kd15 K E_Shut E_FarError E_Shut E_NoRoom E_BadFrame E_BadWire E_BadService E_BadPlan E_NoHouse E_NoCall E_Ended E_NoTask E_NoDeed E_Broken E_BadText true true true false false false false false false false false false false false false := ⟨kt_Shut_FarError, kt_Shut_ValueError, kt_Shut_Shut, kt_Shut_NoRoom, kt_Shut_BadFrame, kt_Shut_BadWire, kt_Shut_BadService, kt_Shut_BadPlan, kt_Shut_NoHouse, kt_Shut_NoCall, kt_Shut_Ended, kt_Shut_NoTask, kt_Shut_NoDeed, kt_Shut_Broken, kt_Shut_BadText⟩
  have xcN : _root_.L2.ExcC K E_NoRoom := ⟨ga_NoRoom, gb_NoRoom, es_NoRoom, hd_NoRoom, ha_NoRoom, hn_c, ht_c, hm_NoRoom⟩
  have kdN : Kd15 K E_NoRoom E_FarError E_Shut E_NoRoom E_BadFrame E_BadWire E_BadService E_BadPlan E_NoHouse E_NoCall E_Ended E_NoTask E_NoDeed E_Broken E_BadText true true false true false false false false false false false false false false false := ⟨kt_NoRoom_FarError, kt_NoRoom_ValueError, kt_NoRoom_Shut, kt_NoRoom_NoRoom, kt_NoRoom_BadFrame, kt_NoRoom_BadWire, kt_NoRoom_BadService, kt_NoRoom_BadPlan, kt_NoRoom_NoHouse, kt_NoRoom_NoCall, kt_NoRoom_Ended, kt_NoRoom_NoTask, kt_NoRoom_NoDeed, kt_NoRoom_Broken, kt_NoRoom_BadText⟩
  have z_len : mg "len" = none := PySem.W.mg_none_of X G z_len
  have z_list : mg "list" = none := PySem.W.mg_none_of X G z_list
  have z_range : mg "range" = none := PySem.W.mg_none_of X G z_range
  have z_min : mg "min" = none := PySem.W.mg_none_of X G z_min
  have z_max : mg "max" = none := PySem.W.mg_none_of X G z_max
  have z_isinstance : mg "isinstance" = none := PySem.W.mg_none_of X G z_isinstance
  have z_int : mg "int" = none := PySem.W.mg_none_of X G z_int
  have z_bool : mg "bool" = none := PySem.W.mg_none_of X G z_bool
  have z_enumerate : mg "enumerate" = none := PySem.W.mg_none_of X G z_enumerate
  have z_ValueError : mg "ValueError" = none := PySem.W.mg_none_of X G z_ValueError
  refine ⟨PySem.W.fnOf "law" "law" (defArgs s_law) (defBody s_law) (defScope s_law) .none kV18 dc18 pm18 an18 cd18 ct18, fun s v => .of_eq rfl, fun base _ _ => ?_⟩
  have TG : GvCls K C_Giver := ⟨cl_Giver, na_Giver_below, na_Giver_behind, na_Giver_pieces, na_Giver_closed⟩
  have FG : FunD K "__init__" "Giver.__init__" (defArgs s_Giver__init) (defBody s_Giver__init) (defScope s_Giver__init) [] [("window", V.int 4)] _ _ := ⟨⟨_, _, _, _, _, _, _, _, _, _, rfl, l1, c1, .inl ⟨rfl, rfl⟩, .inr ⟨_, rfl, fun q hq => by rw [List.mem_singleton.mp hq]; exact ⟨_, d1, _, rfl⟩⟩⟩, k1⟩
  obtain ⟨mv, KBG⟩ := FG.kbinds0 (ps := ["self", "window"]) 1 ["window"] [] (fun us mv ws => us ++ ws) (by simp) (fun _ h => nomatch h) (fun r1 _ r2 => r1.append r2) (fun D doc pm an cdv ct us mv ws h1 h2 h3 => match us, ws, h1, h3 with | [_], [_], _, _ => rfl)
  have mkg : MakK l.prog w K mg base CX0 1 "Giver" C_Giver ["window"] (spGvInit C_Giver) := ⟨_, _, _, _, M_Giver, ok_Giver__init F_Giver__init TG, gC_Giver, KBG⟩
  obtain ⟨ds0, VD, BD⟩ := FG.binds0 (ps := ["self", "window"]) 1 (by simp) rfl (fun D doc pm an cdv ct us ks h1 h2 => match us, ks, h1, h2 with | [_], [_], _, _ => ⟨_, _, _, _, _, _, rfl, rfl, rfl⟩)
  have mkd : MakD l.prog w K mg base CX0 1 "Giver" C_Giver [V.int 4] (spGvInit C_Giver) := ⟨_, _, _, ds0, M_Giver, ok_Giver__init F_Giver__init TG, gC_Giver, BD, VD⟩
  have mmany : Met l.prog w K mg base CX0 1 C_Giver "many" (spMany C_Giver) := ⟨_, _, _, cl_Giver, me_Giver_many, ok_Giver_many F_Giver_many TG z_len, b_Giver_many⟩
  have mput0 : MetK l.prog w K mg base (L2.CX l.prog w) 2 C_Giver "put" ["value"] [0] (spPutX2 C_Giver E_Shut E_NoRoom) := ⟨_, _, _, cl_Giver, me_Giver_put, ok_Giver_put F_Giver_put TG cShut cNoRoom mmany, fun_kbn F_Giver_put 1 ["value"] [0] (fun _ _ _ _ _ _ us ws h1 h2 => match us, ws, h1, h2 with | [_], [_], _, _ => rfl)⟩
  have mshut0 : Met l.prog w K mg base (L2.CX l.prog w) 2 C_Giver "shut" (spShutX C_Giver E_Shut) := ⟨_, _, _, cl_Giver, me_Giver_shut, ok_Giver_shut F_Giver_shut TG cShut, b_Giver_shut⟩
  have mheardK : MetK l.prog w K mg base CX0 1 C_Giver "heard" ["room", "got"] [1, 0] (spHeard C_Giver) := ⟨_, _, _, cl_Giver, me_Giver_heard, ok_Giver_heard F_Giver_heard TG z_max, fun_kbn F_Giver_heard 1 ["room", "got"] [1, 0] (fun _ _ _ _ _ _ us ws h1 h2 => match us, ws, h1, h2 with | [_], [_, _], _, _ => rfl)⟩
  have mwanted : Met l.prog w K mg base CX0 1 C_Giver "wanted" (spWanted C_Giver) := ⟨_, _, _, cl_Giver, me_Giver_wanted, ok_Giver_wanted F_Giver_wanted TG z_enumerate, b_Giver_wanted⟩
  have misshut : Met l.prog w K mg base CX0 1 C_Giver "is_shut" (spIsShut C_Giver) := ⟨_, _, _, cl_Giver, me_Giver_is_shut, ok_Giver_is_shut F_Giver_is_shut TG, b_Giver_is_shut⟩
  have cd : Cal l.prog w K mg base CX0 1 "_law_draw" spDraw := ⟨_, _, _, ok_draw F_law_draw z_len, g_law_draw, F_law_draw.kp, b_law_draw⟩
  have cv : Cal l.prog w K mg base CX0 2 "_law_value" spValue := ⟨_, _, _, ok_law_value F_law_value cd z_range, g_law_value, F_law_value.kp, b_law_value⟩
  have cw : Cal l.prog w K mg base CX0 2 "_law_wide" spWide := ⟨_, _, _, ok_law_wide F_law_wide cd, g_law_wide, F_law_wide.kp, b_law_wide⟩
  have cis : Cal l.prog w K mg base CX0 1 "_law_is" spIs := ⟨_, _, _, ok_law_is F_law_is z_isinstance z_int z_bool, g_law_is, F_law_is.kp, b_law_is⟩
  have ctr : Cal l.prog w K mg base CX0 1 "_law_truth" spTruth := ⟨_, _, _, ok_law_truth F_law_truth z_isinstance z_bool, g_law_truth, F_law_truth.kp, b_law_truth⟩
  have ckd : Cal l.prog w K mg base CX0 1 "_law_kinds" (spKinds K E_FarError E_Shut E_NoRoom E_BadFrame E_BadWire E_BadService E_BadPlan E_NoHouse E_NoCall E_Ended E_NoTask E_NoDeed E_Broken E_BadText) := ⟨_, _, _, ok_law_kinds F_law_kinds gFarError gShut gNoRoom gBadFrame gBadWire gBadService gBadPlan gNoHouse gNoCall gEnded gNoTask gNoDeed gBroken gBadText z_isinstance z_ValueError, g_law_kinds, F_law_kinds.kp, b_law_kinds⟩
  have cwd : Cal l.prog w K mg base CX0 2 "_law_word" (spWord E_Shut E_NoRoom) := ⟨_, _, _, ok_law_word F_law_word ckd xcS xcN kdS kdN, g_law_word, F_law_word.kp, b_law_word⟩
  have clp : Cal l.prog w K mg base CX0 3 "_law_put" (spLPut C_Giver) := ⟨_, _, _, ok_law_put F_law_put gFarError xFS xFN cwd mput0, g_law_put, F_law_put.kp, b_law_put⟩
  have clS : Cal l.prog w K mg base CX0 3 "_law_shut" (spLShut C_Giver) := ⟨_, _, _, ok_law_shut F_law_shut gFarError xFS xFN cwd mshut0, g_law_shut, F_law_shut.kp, b_law_shut⟩
  have clr : Cal l.prog w K mg base CX0 2 "_law_right" (spRight9 C_Giver) := ⟨_, _, _, ok_law_right F_law_right mmany misshut mwanted cis ctr z_len z_range z_isinstance z_list, g_law_right, F_law_right.kp, b_law_right⟩
  exact ok_law F_law cd cv cw mkg mkd clp clS clr mheardK z_list z_len z_range z_max z_min
end G

set_option linter.all false
set_option maxRecDepth 100000
set_option maxHeartbeats 4000000
open PySem PySem.W PyProof.Rows
set_option maxRecDepth 100000 in
set_option maxHeartbeats 0 in
theorem PySem.Challenge.cw_farasked_k09_givers_holds : PySem.Challenge.rw_farasked_k09_givers.Holds := by
  w_on; o_law; k_head; (case hw => w_witness2)
  k_fill
  refine L2.walk_of (l := PySem.Challenge.rw_farasked_k09_givers) (n := 63) (k := 4) (x := "_law_script") (CX := fun _ => L2.CX0) (sp := fun w => G.spLaw _) rfl (by decide) rfl ⟨rfl, by decide, by decide⟩ (fun w h Y => PySem.W.kIn_of Y) ?F (fun _ _ a ns hl _ hS => ⟨a, ns, rfl, hS, hl, fun _ => rfl⟩) (fun _ _ _ _ _ h => h)
  case F =>
    intro w mg fa h KX GN hmg
    refine' G.all_mk KX GN hmg ?g_Giver ?pg_Giver ?hd_Giver ?po_Giver ?sa_Giver ?mk_Giver ?kc_Giver ?na_Giver_below ?na_Giver_behind ?na_Giver_pieces ?na_Giver_closed ?m1 ?i1 ?l1 ?c1 ?k1 ?d1 ?m2 ?i2 ?l2 ?c2 ?k2 ?m3 ?i3 ?l3 ?c3 ?k3 ?m4 ?i4 ?l4 ?c4 ?k4 ?m5 ?i5 ?l5 ?c5 ?k5 ?m6 ?i6 ?l6 ?c6 ?k6 ?m7 ?i7 ?l7 ?c7 ?k7 ?a8 ?l8 ?c8 ?k8 ?a9 ?l9 ?c9 ?k9 ?a10 ?l10 ?c10 ?k10 ?a11 ?l11 ?c11 ?k11 ?a12 ?l12 ?c12 ?k12 ?a13 ?l13 ?c13 ?k13 ?a14 ?l14 ?c14 ?k14 ?a15 ?l15 ?c15 ?k15 ?a16 ?l16 ?c16 ?k16 ?a17 ?l17 ?c17 ?k17 ?a18 ?l18 ?c18 ?k18 ?eg_Shut ?eq_Shut ?ek_Shut ?es_Shut ?et_Shut ?ei_Shut ?ex_Shut ?eg_NoRoom ?eq_NoRoom ?ek_NoRoom ?es_NoRoom ?et_NoRoom ?ei_NoRoom ?ex_NoRoom ?eg_FarError ?eg_BadFrame ?eg_BadWire ?eg_BadService ?eg_BadPlan ?eg_NoHouse ?eg_NoCall ?eg_Ended ?eg_NoTask ?eg_NoDeed ?eg_Broken ?eg_BadText ?es_FarError ?et_FarError ?ei_FarError ?ef_Shut ?ga_Shut ?gb_Shut ?hd_Shut ?ha_Shut ?hm_Shut ?kt_Shut_FarError ?kt_Shut_ValueError ?kt_Shut_Shut ?kt_Shut_NoRoom ?kt_Shut_BadFrame ?kt_Shut_BadWire ?kt_Shut_BadService ?kt_Shut_BadPlan ?kt_Shut_NoHouse ?kt_Shut_NoCall ?kt_Shut_Ended ?kt_Shut_NoTask ?kt_Shut_NoDeed ?kt_Shut_Broken ?kt_Shut_BadText ?ef_NoRoom ?ga_NoRoom ?gb_NoRoom ?hd_NoRoom ?ha_NoRoom ?hm_NoRoom ?kt_NoRoom_FarError ?kt_NoRoom_ValueError ?kt_NoRoom_Shut ?kt_NoRoom_NoRoom ?kt_NoRoom_BadFrame ?kt_NoRoom_BadWire ?kt_NoRoom_BadService ?kt_NoRoom_BadPlan ?kt_NoRoom_NoHouse ?kt_NoRoom_NoCall ?kt_NoRoom_Ended ?kt_NoRoom_NoTask ?kt_NoRoom_NoDeed ?kt_NoRoom_Broken ?kt_NoRoom_BadText ?hn_c ?ht_c ?z_len ?z_list ?z_range ?z_min ?z_max ?z_isinstance ?z_int ?z_bool ?z_enumerate ?z_ValueError
    (case g_Giver => first | k_is | k_exc | kernel_rfl | rfl)
    (case pg_Giver => first | k_is | k_exc | kernel_rfl | rfl)
    (case hd_Giver => first | k_is | k_exc | kernel_rfl | rfl)
    (case po_Giver => first | k_is | k_exc | kernel_rfl | rfl)
    (case sa_Giver => first | k_is | k_exc | kernel_rfl | rfl)
    (case mk_Giver => first | k_is | k_exc | kernel_rfl | rfl)
    (case kc_Giver => first | k_is | k_exc | kernel_rfl | rfl)
    (case na_Giver_below => first | k_is | k_exc | kernel_rfl | rfl)
    (case na_Giver_behind => first | k_is | k_exc | kernel_rfl | rfl)
    (case na_Giver_pieces => first | k_is | k_exc | kernel_rfl | rfl)
    (case na_Giver_closed => first | k_is | k_exc | kernel_rfl | rfl)
    (case m1 => first | k_is | k_exc | kernel_rfl | rfl)
    (case i1 => first | k_is | k_exc | kernel_rfl | rfl)
    (case l1 => first | k_is | k_exc | kernel_rfl | rfl)
    (case c1 => first | k_is | k_exc | kernel_rfl | rfl)
    (case k1 => first | k_is | k_exc | kernel_rfl | rfl)
    (case d1 => first | k_is | k_exc | kernel_rfl | rfl)
    (case m2 => first | k_is | k_exc | kernel_rfl | rfl)
    (case i2 => first | k_is | k_exc | kernel_rfl | rfl)
    (case l2 => first | k_is | k_exc | kernel_rfl | rfl)
    (case c2 => first | k_is | k_exc | kernel_rfl | rfl)
    (case k2 => first | k_is | k_exc | kernel_rfl | rfl)
    (case m3 => first | k_is | k_exc | kernel_rfl | rfl)
    (case i3 => first | k_is | k_exc | kernel_rfl | rfl)
    (case l3 => first | k_is | k_exc | kernel_rfl | rfl)
    (case c3 => first | k_is | k_exc | kernel_rfl | rfl)
    (case k3 => first | k_is | k_exc | kernel_rfl | rfl)
    (case m4 => first | k_is | k_exc | kernel_rfl | rfl)
    (case i4 => first | k_is | k_exc | kernel_rfl | rfl)
    (case l4 => first | k_is | k_exc | kernel_rfl | rfl)
    (case c4 => first | k_is | k_exc | kernel_rfl | rfl)
    (case k4 => first | k_is | k_exc | kernel_rfl | rfl)
    (case m5 => first | k_is | k_exc | kernel_rfl | rfl)
    (case i5 => first | k_is | k_exc | kernel_rfl | rfl)
    (case l5 => first | k_is | k_exc | kernel_rfl | rfl)
    (case c5 => first | k_is | k_exc | kernel_rfl | rfl)
    (case k5 => first | k_is | k_exc | kernel_rfl | rfl)
    (case m6 => first | k_is | k_exc | kernel_rfl | rfl)
    (case i6 => first | k_is | k_exc | kernel_rfl | rfl)
    (case l6 => first | k_is | k_exc | kernel_rfl | rfl)
    (case c6 => first | k_is | k_exc | kernel_rfl | rfl)
    (case k6 => first | k_is | k_exc | kernel_rfl | rfl)
    (case m7 => first | k_is | k_exc | kernel_rfl | rfl)
    (case i7 => first | k_is | k_exc | kernel_rfl | rfl)
    (case l7 => first | k_is | k_exc | kernel_rfl | rfl)
    (case c7 => first | k_is | k_exc | kernel_rfl | rfl)
    (case k7 => first | k_is | k_exc | kernel_rfl | rfl)
    (case a8 => first | k_is | k_exc | kernel_rfl | rfl)
    (case l8 => first | k_is | k_exc | kernel_rfl | rfl)
    (case c8 => first | k_is | k_exc | kernel_rfl | rfl)
    (case k8 => first | k_is | k_exc | kernel_rfl | rfl)
    (case a9 => first | k_is | k_exc | kernel_rfl | rfl)
    (case l9 => first | k_is | k_exc | kernel_rfl | rfl)
    (case c9 => first | k_is | k_exc | kernel_rfl | rfl)
    (case k9 => first | k_is | k_exc | kernel_rfl | rfl)
    (case a10 => first | k_is | k_exc | kernel_rfl | rfl)
    (case l10 => first | k_is | k_exc | kernel_rfl | rfl)
    (case c10 => first | k_is | k_exc | kernel_rfl | rfl)
    (case k10 => first | k_is | k_exc | kernel_rfl | rfl)
    (case a11 => first | k_is | k_exc | kernel_rfl | rfl)
    (case l11 => first | k_is | k_exc | kernel_rfl | rfl)
    (case c11 => first | k_is | k_exc | kernel_rfl | rfl)
    (case k11 => first | k_is | k_exc | kernel_rfl | rfl)
    (case a12 => first | k_is | k_exc | kernel_rfl | rfl)
    (case l12 => first | k_is | k_exc | kernel_rfl | rfl)
    (case c12 => first | k_is | k_exc | kernel_rfl | rfl)
    (case k12 => first | k_is | k_exc | kernel_rfl | rfl)
    (case a13 => first | k_is | k_exc | kernel_rfl | rfl)
    (case l13 => first | k_is | k_exc | kernel_rfl | rfl)
    (case c13 => first | k_is | k_exc | kernel_rfl | rfl)
    (case k13 => first | k_is | k_exc | kernel_rfl | rfl)
    (case a14 => first | k_is | k_exc | kernel_rfl | rfl)
    (case l14 => first | k_is | k_exc | kernel_rfl | rfl)
    (case c14 => first | k_is | k_exc | kernel_rfl | rfl)
    (case k14 => first | k_is | k_exc | kernel_rfl | rfl)
    (case a15 => first | k_is | k_exc | kernel_rfl | rfl)
    (case l15 => first | k_is | k_exc | kernel_rfl | rfl)
    (case c15 => first | k_is | k_exc | kernel_rfl | rfl)
    (case k15 => first | k_is | k_exc | kernel_rfl | rfl)
    (case a16 => first | k_is | k_exc | kernel_rfl | rfl)
    (case l16 => first | k_is | k_exc | kernel_rfl | rfl)
    (case c16 => first | k_is | k_exc | kernel_rfl | rfl)
    (case k16 => first | k_is | k_exc | kernel_rfl | rfl)
    (case a17 => first | k_is | k_exc | kernel_rfl | rfl)
    (case l17 => first | k_is | k_exc | kernel_rfl | rfl)
    (case c17 => first | k_is | k_exc | kernel_rfl | rfl)
    (case k17 => first | k_is | k_exc | kernel_rfl | rfl)
    (case a18 => first | k_is | k_exc | kernel_rfl | rfl)
    (case l18 => first | k_is | k_exc | kernel_rfl | rfl)
    (case c18 => first | k_is | k_exc | kernel_rfl | rfl)
    (case k18 => first | k_is | k_exc | kernel_rfl | rfl)
    (case eg_Shut => first | k_is | k_exc | kernel_rfl | rfl)
    (case eq_Shut => first | k_is | k_exc | kernel_rfl | rfl)
    (case ek_Shut => first | k_is | k_exc | kernel_rfl | rfl)
    (case es_Shut => first | k_is | k_exc | kernel_rfl | rfl)
    (case et_Shut => first | k_is | k_exc | kernel_rfl | rfl)
    (case ei_Shut => first | k_is | k_exc | kernel_rfl | rfl)
    (case ex_Shut => first | k_is | k_exc | kernel_rfl | rfl)
    (case eg_NoRoom => first | k_is | k_exc | kernel_rfl | rfl)
    (case eq_NoRoom => first | k_is | k_exc | kernel_rfl | rfl)
    (case ek_NoRoom => first | k_is | k_exc | kernel_rfl | rfl)
    (case es_NoRoom => first | k_is | k_exc | kernel_rfl | rfl)
    (case et_NoRoom => first | k_is | k_exc | kernel_rfl | rfl)
    (case ei_NoRoom => first | k_is | k_exc | kernel_rfl | rfl)
    (case ex_NoRoom => first | k_is | k_exc | kernel_rfl | rfl)
    (case eg_FarError => first | k_is | k_exc | kernel_rfl | rfl)
    (case eg_BadFrame => first | k_is | k_exc | kernel_rfl | rfl)
    (case eg_BadWire => first | k_is | k_exc | kernel_rfl | rfl)
    (case eg_BadService => first | k_is | k_exc | kernel_rfl | rfl)
    (case eg_BadPlan => first | k_is | k_exc | kernel_rfl | rfl)
    (case eg_NoHouse => first | k_is | k_exc | kernel_rfl | rfl)
    (case eg_NoCall => first | k_is | k_exc | kernel_rfl | rfl)
    (case eg_Ended => first | k_is | k_exc | kernel_rfl | rfl)
    (case eg_NoTask => first | k_is | k_exc | kernel_rfl | rfl)
    (case eg_NoDeed => first | k_is | k_exc | kernel_rfl | rfl)
    (case eg_Broken => first | k_is | k_exc | kernel_rfl | rfl)
    (case eg_BadText => first | k_is | k_exc | kernel_rfl | rfl)
    (case es_FarError => first | k_is | k_exc | kernel_rfl | rfl)
    (case et_FarError => first | k_is | k_exc | kernel_rfl | rfl)
    (case ei_FarError => first | k_is | k_exc | kernel_rfl | rfl)
    (case ef_Shut => first | k_is | k_exc | kernel_rfl | rfl)
    (case ga_Shut => first | k_is | k_exc | kernel_rfl | rfl)
    (case gb_Shut => first | k_is | k_exc | kernel_rfl | rfl)
    (case hd_Shut => first | k_is | k_exc | kernel_rfl | rfl)
    (case ha_Shut => first | k_is | k_exc | kernel_rfl | rfl)
    (case hm_Shut => first | k_is | k_exc | kernel_rfl | rfl)
    (case kt_Shut_FarError => first | k_is | k_exc | kernel_rfl | rfl)
    (case kt_Shut_ValueError => first | k_is | k_exc | kernel_rfl | rfl)
    (case kt_Shut_Shut => first | k_is | k_exc | kernel_rfl | rfl)
    (case kt_Shut_NoRoom => first | k_is | k_exc | kernel_rfl | rfl)
    (case kt_Shut_BadFrame => first | k_is | k_exc | kernel_rfl | rfl)
    (case kt_Shut_BadWire => first | k_is | k_exc | kernel_rfl | rfl)
    (case kt_Shut_BadService => first | k_is | k_exc | kernel_rfl | rfl)
    (case kt_Shut_BadPlan => first | k_is | k_exc | kernel_rfl | rfl)
    (case kt_Shut_NoHouse => first | k_is | k_exc | kernel_rfl | rfl)
    (case kt_Shut_NoCall => first | k_is | k_exc | kernel_rfl | rfl)
    (case kt_Shut_Ended => first | k_is | k_exc | kernel_rfl | rfl)
    (case kt_Shut_NoTask => first | k_is | k_exc | kernel_rfl | rfl)
    (case kt_Shut_NoDeed => first | k_is | k_exc | kernel_rfl | rfl)
    (case kt_Shut_Broken => first | k_is | k_exc | kernel_rfl | rfl)
    (case kt_Shut_BadText => first | k_is | k_exc | kernel_rfl | rfl)
    (case ef_NoRoom => first | k_is | k_exc | kernel_rfl | rfl)
    (case ga_NoRoom => first | k_is | k_exc | kernel_rfl | rfl)
    (case gb_NoRoom => first | k_is | k_exc | kernel_rfl | rfl)
    (case hd_NoRoom => first | k_is | k_exc | kernel_rfl | rfl)
    (case ha_NoRoom => first | k_is | k_exc | kernel_rfl | rfl)
    (case hm_NoRoom => first | k_is | k_exc | kernel_rfl | rfl)
    (case kt_NoRoom_FarError => first | k_is | k_exc | kernel_rfl | rfl)
    (case kt_NoRoom_ValueError => first | k_is | k_exc | kernel_rfl | rfl)
    (case kt_NoRoom_Shut => first | k_is | k_exc | kernel_rfl | rfl)
    (case kt_NoRoom_NoRoom => first | k_is | k_exc | kernel_rfl | rfl)
    (case kt_NoRoom_BadFrame => first | k_is | k_exc | kernel_rfl | rfl)
    (case kt_NoRoom_BadWire => first | k_is | k_exc | kernel_rfl | rfl)
    (case kt_NoRoom_BadService => first | k_is | k_exc | kernel_rfl | rfl)
    (case kt_NoRoom_BadPlan => first | k_is | k_exc | kernel_rfl | rfl)
    (case kt_NoRoom_NoHouse => first | k_is | k_exc | kernel_rfl | rfl)
    (case kt_NoRoom_NoCall => first | k_is | k_exc | kernel_rfl | rfl)
    (case kt_NoRoom_Ended => first | k_is | k_exc | kernel_rfl | rfl)
    (case kt_NoRoom_NoTask => first | k_is | k_exc | kernel_rfl | rfl)
    (case kt_NoRoom_NoDeed => first | k_is | k_exc | kernel_rfl | rfl)
    (case kt_NoRoom_Broken => first | k_is | k_exc | kernel_rfl | rfl)
    (case kt_NoRoom_BadText => first | k_is | k_exc | kernel_rfl | rfl)
    (case hn_c => first | k_is | k_exc | kernel_rfl | rfl)
    (case ht_c => first | k_is | k_exc | kernel_rfl | rfl)
    (case z_len => first | k_is | k_exc | kernel_rfl | rfl)
    (case z_list => first | k_is | k_exc | kernel_rfl | rfl)
    (case z_range => first | k_is | k_exc | kernel_rfl | rfl)
    (case z_min => first | k_is | k_exc | kernel_rfl | rfl)
    (case z_max => first | k_is | k_exc | kernel_rfl | rfl)
    (case z_isinstance => first | k_is | k_exc | kernel_rfl | rfl)
    (case z_int => first | k_is | k_exc | kernel_rfl | rfl)
    (case z_bool => first | k_is | k_exc | kernel_rfl | rfl)
    (case z_enumerate => first | k_is | k_exc | kernel_rfl | rfl)
    (case z_ValueError => first | k_is | k_exc | kernel_rfl | rfl)

