import PyProof.Rows.All
import Wide.All
import OpenK.AllK
import Wide.FinOn
import KE.KStateDown
import HandS.ForMost
import HandS.Exc
import HandS.WordsExc
import HandS.Defaults
import HandS.Walk
import HandS.Head0
import HandS.Head1
import HandS.Head2
import HandS.HeadEnd
import HandS.HeadHook1
import HandS.HeadHook2
import HandS.HeadHook3
import HandS.HeadHook4
import HandS.EndBits
import HandS.Codes
import HandS.MakeKw
import HandS.MakeKwOnly
import HandS.Style
import HandS.IsInst
import HandS.Flow
import HandS.TupAny
import HandS.TupMul
import HandS.TupLe
import HandS.Wide
import HandS.WideBits
import HandS.Zip
import PySem.Challenge.RW_gatesofcloth_k02_words_and_tables

set_option Elab.async false
set_option linter.all false
set_option maxRecDepth 100000
set_option maxHeartbeats 4000000
/-! My own small layer over HandS: an abstract heap told by facts (F) and own cells (cs). -/
namespace My
open PySem PySem.Spec L2

/-! ### facts that stay -/
class Mono (F : Hp → Prop) : Prop where
  up : ∀ B B', Same B B' → F B → F B'
theorem Same.seqT {K : PySem.W.Frag} {H H' : Hp} {a : Addr} {xs : List V} (e : Same H H') (h : SqT K H a xs) : SqT K H' a xs := by
  rcases h with (h | ⟨o, h⟩) | h
  · exact .inl (.inl (e _ _ h))
  · exact .inl (.inr ⟨o, e _ _ h⟩)
  · exact .inr h
instance {K : PySem.W.Frag} {a : Addr} {xs : List V} : Mono (fun H => SqL K H a xs) := ⟨fun _ _ e h => e.seq h⟩
instance {K : PySem.W.Frag} {a : Addr} {xs : List V} : Mono (fun H => SqT K H a xs) := ⟨fun _ _ e h => Same.seqT e h⟩
instance {P : Prop} : Mono (fun _ => P) := ⟨fun _ _ _ h => h⟩
instance {A B : Hp → Prop} [Mono A] [Mono B] : Mono (fun H => A H ∧ B H) := ⟨fun _ _ e h => ⟨Mono.up _ _ e h.1, Mono.up _ _ e h.2⟩⟩
instance {A B : Hp → Prop} [Mono A] [Mono B] : Mono (fun H => A H ∨ B H) := ⟨fun _ _ e h => h.imp (Mono.up _ _ e) (Mono.up _ _ e)⟩
instance {α : Sort _} {A : α → Hp → Prop} [∀ x, Mono (A x)] : Mono (fun H => ∀ x, A x H) := ⟨fun _ _ e h x => Mono.up _ _ e (h x)⟩
instance {α : Sort _} {A : α → Hp → Prop} [∀ x, Mono (A x)] : Mono (fun H => ∃ x, A x H) := ⟨fun _ _ e ⟨x, h⟩ => ⟨x, Mono.up _ _ e h⟩⟩
instance {a : Addr} {o : HO} : Mono (fun H => H a = some o) := ⟨fun _ _ e h => e _ _ h⟩
mutual
theorem dp_up {K : PySem.W.Frag} {H H' : Hp} (e : Same H H') : ∀ {v : V} {d : PyData}, Dp K H v d → Dp K H' v d
  | _, _, .non => .non
  | _, _, .bl b => .bl b
  | _, _, .int i => .int i
  | _, _, .str x => .str x
  | _, _, .lst h k => .lst (e.seq h) (dpAll_up e k)
  | _, _, .tup h k => .tup (Same.seqT e h) (dpAll_up e k)
theorem dpAll_up {K : PySem.W.Frag} {H H' : Hp} (e : Same H H') : ∀ {vs : List V} {ds : List PyData}, DpAll K H vs ds → DpAll K H' vs ds
  | _, _, .nil => .nil
  | _, _, .cons h k => .cons (dp_up e h) (dpAll_up e k)
end
instance {K : PySem.W.Frag} {v : V} {d : PyData} : Mono (fun H => Dp K H v d) := ⟨fun _ _ e h => dp_up e h⟩
instance {K : PySem.W.Frag} {vs : List V} {ds : List PyData} : Mono (fun H => DpAll K H vs ds) := ⟨fun _ _ e h => dpAll_up e h⟩
/-- a sequence that is to be read: a list or a tuple -/
def Sq (K : PySem.W.Frag) (H : Hp) (a : Addr) (xs : List V) : Prop := SqL K H a xs ∨ SqT K H a xs
instance {K : PySem.W.Frag} {a : Addr} {xs : List V} : Mono (fun H => Sq K H a xs) := ⟨fun _ _ e h => h.imp (Same.seq e) (Same.seqT e)⟩

/-! ### the state -/
structure S (F : Hp → Prop) (cs : List (Addr × HO)) (H : Hp) : Prop where
  mono : Mono F
  ex : ∃ B, Same B H ∧ F B ∧ ∀ c ∈ cs, B c.1 = none
  cell : ∀ c ∈ cs, H c.1 = some c.2
  nd : (cs.map (·.1)).Nodup
section
variable {F G : Hp → Prop} {cs cs' : List (Addr × HO)} {H H' : Hp} {p : Addr} {o u : HO} {K : PySem.W.Frag}
theorem same_upd {H : Hp} {p : Addr} {o : HO} (h : H p = none) : Same H (upd H p o) := fun a u e => by rw [upd_ne (ne_of_none e h)]; exact e
theorem S.fact (s : S F cs H) : F H := by
  obtain ⟨B, e, f, _⟩ := s.ex
  exact s.mono.up B H e f
theorem S.of (h : F H) (m : Mono F := by infer_instance) : S F [] H := ⟨m, ⟨H, Same.refl H, h, fun _ z => nomatch z⟩, fun _ z => (nomatch z), List.nodup_nil⟩
theorem S.alloc (s : S F cs H) (h : H p = none) : S F ((p, o) :: cs) (upd H p o) := by
  obtain ⟨m, ⟨B, e, f, fr⟩, c, nd⟩ := s
  have hp : ∀ x ∈ cs, x.1 ≠ p := fun x hx => ne_of_none (c x hx) h
  refine ⟨m, ⟨B, e.trans (same_upd h), f, fun x hx => ?_⟩, fun x hx => ?_, ?_⟩
  · rcases List.mem_cons.mp hx with rfl | hx
    · exact e.free h
    · exact fr x hx
  · rcases List.mem_cons.mp hx with rfl | hx
    · exact upd_same
    · rw [upd_ne (hp x hx)]; exact c x hx
  · rw [List.map_cons, List.nodup_cons]
    refine ⟨fun z => ?_, nd⟩
    obtain ⟨x, hx, ex⟩ := List.mem_map.mp z
    exact hp x hx ex
theorem S.same (s : S F cs H) (e : Same H H') : S F cs H' := by
  obtain ⟨m, ⟨B, e0, f, fr⟩, c, nd⟩ := s
  exact ⟨m, ⟨B, e0.trans e, f, fr⟩, fun x hx => e _ _ (c x hx), nd⟩
theorem S.new (s : S F cs H) (h : H p = none) (e : Same H H') (ho : H' p = some o) : S F ((p, o) :: cs) H' := by
  refine (s.alloc (o := o) h).same fun a u q => ?_
  by_cases z : a = p
  · subst z
    rw [upd_same] at q; cases q; exact ho
  · rw [upd_ne z] at q; exact e _ _ q
theorem mem_of_get {α : Type} {l : List α} {i : Nat} {x : α} (h : l[i]? = some x) : x ∈ l := by
  obtain ⟨h1, h2⟩ := List.getElem?_eq_some_iff.mp h
  exact h2 ▸ List.getElem_mem h1
theorem S.at (s : S F cs H) (i : Nat) {c : Addr × HO} (h : cs[i]? = some c) : H c.1 = some c.2 := s.cell c (mem_of_get h)
theorem S.has (s : S F cs H) {c : Addr × HO} (h : c ∈ cs) : H c.1 = some c.2 := s.cell c h
theorem S.set (s : S F cs H) (i : Nat) (h : cs[i]? = some (p, o)) (u : HO) : S F (cs.set i (p, u)) (upd H p u) := by
  obtain ⟨m, ⟨B, e, f, fr⟩, c, nd⟩ := s
  obtain ⟨hi, hie⟩ := List.getElem?_eq_some_iff.mp h
  have hp : B p = none := fr (p, o) (mem_of_get h)
  have key : (cs.set i (p, u)).map (·.1) = cs.map (·.1) := by
    rw [List.map_set]
    apply List.ext_getElem
    · simp
    · intro j h1 h2
      rw [List.getElem_set]
      split
      · rename_i q; subst q; simp [hie]
      · rfl
  refine ⟨m, ⟨B, fun a w q => ?_, f, fun x hx => ?_⟩, fun x hx => ?_, by rw [key]; exact nd⟩
  · have : a ≠ p := by intro z; subst z; rw [hp] at q; cases q
    rw [upd_ne this]; exact e _ _ q
  · rcases List.mem_or_eq_of_mem_set hx with hx | hx
    · exact fr x hx
    · subst hx; exact hp
  · obtain ⟨j, hj⟩ := List.mem_iff_getElem?.mp hx
    rw [List.getElem?_set] at hj
    by_cases z : i = j
    · subst z
      rw [if_pos rfl, if_pos hi] at hj
      cases hj
      exact upd_same
    · rw [if_neg z] at hj
      have q : x.1 ≠ p := by
        intro w
        have a1 : (cs.map (·.1))[j]? = some p := by rw [List.getElem?_map, hj]; simp [w]
        have a2 : (cs.map (·.1))[i]? = some p := by rw [List.getElem?_map, h]; rfl
        exact z (nd_ix nd a2 a1)
      rw [upd_ne q]
      exact c x (mem_of_get hj)
theorem S.imp (s : S F cs H) (h : ∀ B, F B → G B) (m : Mono G := by infer_instance) : S G cs H := by
  obtain ⟨_, ⟨B, e, f, fr⟩, c, nd⟩ := s
  exact ⟨m, ⟨B, e, h B f, fr⟩, c, nd⟩
theorem S.sub (s : S F cs H) (h : cs'.Sublist cs) : S F cs' H := by
  obtain ⟨m, ⟨B, e, f, fr⟩, c, nd⟩ := s
  exact ⟨m, ⟨B, e, f, fun x hx => fr x (h.subset hx)⟩, fun x hx => c x (h.subset hx), nd.sublist (h.map _)⟩
theorem S.perm (s : S F cs H) (h : cs.Perm cs') : S F cs' H := by
  obtain ⟨m, ⟨B, e, f, fr⟩, c, nd⟩ := s
  exact ⟨m, ⟨B, e, f, fun x hx => fr x (h.mem_iff.mpr hx)⟩, fun x hx => c x (h.mem_iff.mpr hx), (h.map _).nodup_iff.mp nd⟩
/-- the first cell will not change any more: a fact -/
theorem S.freeze (s : S F ((p, o) :: cs) H) (h : ∀ B, F B → B p = some o → G B) (m : Mono G := by infer_instance) : S G cs H := by
  obtain ⟨mF, ⟨B, e, f, fr⟩, c, nd⟩ := s
  have hp : H p = some o := c (p, o) (List.mem_cons_self ..)
  have bp : B p = none := fr (p, o) (List.mem_cons_self ..)
  rw [List.map_cons, List.nodup_cons] at nd
  refine ⟨m, ⟨upd B p o, fun a u q => ?_, h _ (mF.up _ _ (same_upd bp) f) upd_same, fun x hx => ?_⟩, fun x hx => c x (List.mem_cons_of_mem _ hx), nd.2⟩
  · by_cases z : a = p
    · subst z; rw [upd_same] at q; cases q; exact hp
    · rw [upd_ne z] at q; exact e _ _ q
  · have q : x.1 ≠ p := fun z => nd.1 (List.mem_map.mpr ⟨x, hx, z⟩)
    rw [upd_ne q]; exact fr x (List.mem_cons_of_mem _ hx)
theorem S.drop1 (s : S F ((p, o) :: cs) H) : S F cs H := s.sub (List.sublist_cons_self _ _)
theorem S.free (s : S F cs H) (h : H p = none) : ∀ c ∈ cs, c.1 ≠ p := fun c hc => ne_of_none (s.cell c hc) h
end
theorem sq_l {K : PySem.W.Frag} {H : Hp} {a : Addr} {xs : List V} (h : H a = some (.lst xs)) : SqL K H a xs := Or.inl (Or.inl h)
theorem sq_t {K : PySem.W.Frag} {H : Hp} {a : Addr} {xs : List V} (h : H a = some (.tup xs)) : SqT K H a xs := Or.inl (Or.inl h)

/-! ### steps of a reading -/
section
variable {σ σ' : L2.St} {H : Hp} {Q : VK} {nx bk ct : L2.St → Hp → Prop} {rt : VK} {ta tb tc te : TE} {t u : TS} {tt tu : TT} {i j : Nat} {v x y : V} {r : R2} {K : PySem.W.Frag} {F : Hp → Prop} {cs : List (Addr × HO)}
theorem x_seq (h : t ⟨fun σ H => u ⟨nx, rt, bk, ct⟩ σ H, rt, bk, ct⟩ σ H) : tSeq t u ⟨nx, rt, bk, ct⟩ σ H := h
theorem x_next (h : nx σ H) : tNext ⟨nx, rt, bk, ct⟩ σ H := h
theorem x_ret (h : te σ H rt) : tRet te ⟨nx, rt, bk, ct⟩ σ H := h
theorem x_retN (h : rt .non H) : tRetN ⟨nx, rt, bk, ct⟩ σ H := h
theorem x_brk (h : bk σ H) : tBreak ⟨nx, rt, bk, ct⟩ σ H := h
theorem x_cont (h : ct σ H) : tCont ⟨nx, rt, bk, ct⟩ σ H := h
theorem x_drop (h : te σ H fun _ H1 => nx σ H1) : tDrop te ⟨nx, rt, bk, ct⟩ σ H := h
theorem x_asg {g : TG} (h : te σ H fun x H1 => g x σ H1 nx) : tAsg te g ⟨nx, rt, bk, ct⟩ σ H := h
theorem x_gname {R : L2.St → Hp → Prop} (h : R (σ.set i (some v)) H) : gName i v σ H R := h
theorem x_ifs (h : tt σ H fun b H1 => if b = true then t ⟨nx, rt, bk, ct⟩ σ H1 else u ⟨nx, rt, bk, ct⟩ σ H1) : tIfS tt t u ⟨nx, rt, bk, ct⟩ σ H := h
theorem x_for {wi : TI} {g : TG} {tb : TS} (h : wi σ H fun J H1 => ∃ W : Nat → Nat → L2.St → Hp → Prop, (∃ m, W 0 m σ H1) ∧ ∀ i m σ H, W i m σ H →
  (J.stop i H ∧ nx σ H) ∨ (J.go i H ∧ ∃ N : L2.St → Hp → Prop, (∀ σ' H', N σ' H' → ∃ m', m' < m ∧ W (i + 1) m' σ' H') ∧ ∀ x H', J.yld i H x H' → g x σ H' fun σ2 H2 => tb ⟨N, rt, nx, N⟩ σ2 H2)) : tFor wi g tb ⟨nx, rt, bk, ct⟩ σ H := h
theorem x_var (h : σ[i]? = some (some v)) (q : Q v H) : tVar i σ H Q := ⟨v, h, q⟩
theorem x_c (q : Q v H) : tC v σ H Q := q
theorem x_op (h : ta σ H fun x H1 => tb σ H1 fun y H2 => r x y H2 Q) : tOp r ta tb σ H Q := h
theorem x_un {r : V → Hp → VK → Prop} (h : ta σ H fun x H1 => r x H1 Q) : tUn r ta σ H Q := h
theorem x_I0 {g : Int → Int → V} {a b : Int} (q : Q (g a b) H) : rI0 g (.int a) (.int b) H Q := ⟨a, b, rfl, rfl, q⟩
theorem x_I {C : Int → Int → Prop} {g : Int → Int → V} {a b : Int} (c : C a b) (q : Q (g a b) H) : rI C g (.int a) (.int b) H Q := ⟨a, b, rfl, rfl, c, q⟩
theorem x_U {g : Int → V} {a : Int} (q : Q (g a) H) : rU g (.int a) H Q := ⟨a, rfl, q⟩
theorem x_eq (hs : scal x y = true) (q : Q (.bl (decide (x = y))) H) : rEq x y H Q := ⟨hs, q⟩
theorem x_ne (hs : scal x y = true) (q : Q (.bl (!decide (x = y))) H) : rNe x y H Q := ⟨hs, q⟩
theorem x_test {R : Bool → Hp → Prop} (h : te σ H fun x H' => ∃ k, x = .bl k ∧ R k H') : tTest te σ H R := h
theorem x_tB {R : Bool → Hp → Prop} (h : te σ H fun x H' => ∃ k, x = .bl k ∧ R k H') : tB te σ H R := h
theorem x_bl {R : Bool → Prop} {b : Bool} (q : R b) : ∃ k, V.bl b = V.bl k ∧ R k := ⟨b, rfl, q⟩
theorem x_and {R : Bool → Hp → Prop} (h : tt σ H fun c H1 => if c = true then tu σ H1 R else R false H1) : tAnd tt tu σ H R := h
theorem x_or {R : Bool → Hp → Prop} (h : tt σ H fun c H1 => if c = true then R true H1 else tu σ H1 R) : tOr tt tu σ H R := h
theorem x_not {R : Bool → Hp → Prop} (h : tt σ H fun c H1 => R (!c) H1) : tNot tt σ H R := h
theorem x_ifE (h : tt σ H fun c H1 => if c = true then ta σ H1 Q else tb σ H1 Q) : tIf tt ta tb σ H Q := h
theorem x_chain {r r' : R2} (h : ta σ H fun x H1 => tb σ H1 fun y H2 => r x y H2 fun z H3 => ∃ k, z = .bl k ∧ (if k = true then tc σ H3 fun w' H4 => r' y w' H4 Q else Q (.bl false) H3)) : tChain r r' ta tb tc σ H Q := h
theorem x_andV (h : ta σ H fun x H1 => ∃ c, x = .bl c ∧ if c = true then tb σ H1 Q else Q (.bl false) H1) : tAndV ta tb σ H Q := h
theorem x_orV (h : ta σ H fun x H1 => ∃ c, x = .bl c ∧ if c = true then Q (.bl true) H1 else tb σ H1 Q) : tOrV ta tb σ H Q := h
theorem x_notV (h : ta σ H fun x H1 => ∃ c, x = .bl c ∧ Q (.bl (!c)) H1) : tNotV ta σ H Q := h
theorem x_nil {R : List V → Hp → Prop} (q : R [] H) : tNil σ H R := q
theorem x_cons {tr : TA} {R : List V → Hp → Prop} (h : ta σ H fun x H1 => tr σ H1 fun xs H2 => R (x :: xs) H2) : tCons ta tr σ H R := h
def NewTup (Q : VK) (xs : List V) (H : Hp) : Prop := xs.length ≤ sizeLine ∧ ∀ p, H p = none → Q (.ref p) (upd H p (.tup xs))
def NewLst (Q : VK) (xs : List V) (H : Hp) : Prop := xs.length ≤ sizeLine ∧ ∀ p, H p = none → Q (.ref p) (upd H p (.lst xs))
theorem x_tup {t : TA} (h : t σ H fun xs H1 => NewTup Q xs H1) : tTup t σ H Q := h
theorem x_lst {t : TA} (h : t σ H fun xs H1 => NewLst Q xs H1) : tLst t σ H Q := h
theorem x_call {sp : Sp} {dvs : List V} {E : XK} {t : TA} (h : t σ H fun vs H1 => sp (vs ++ dvs) H1 Q E) : tCall sp dvs E t σ H Q := h
theorem x_cb {r : List V → Hp → VK → Prop} {t : TA} (h : t σ H fun vs H1 => r vs H1 Q) : tCB r t σ H Q := h
theorem x_new (s : S F cs H) {o : HO} (k : ∀ p H', S F ((p, o) :: cs) H' → Q (.ref p) H') : ∀ p, H p = none → Q (.ref p) (upd H p o) := fun p hp => k p _ (s.alloc hp)
theorem x_newz (s : S F cs H) {o : HO} {A : Prop} (a : A) (k : ∀ p H', S F ((p, o) :: cs) H' → Q (.ref p) H') : A ∧ ∀ p, H p = none → Q (.ref p) (upd H p o) := ⟨a, fun p hp => k p _ (s.alloc hp)⟩
theorem sz4 {n : Nat} (h : n ≤ 10000) : n ≤ sizeLine := Nat.le_trans h (by decide)
theorem x_newT {xs : List V} (hl : xs.length ≤ 10000) (s : S F cs H) (k : ∀ p H', S F ((p, .tup xs) :: cs) H' → Q (.ref p) H') : NewTup Q xs H := ⟨sz4 hl, fun p hp => k p _ (s.alloc hp)⟩
theorem x_newL {xs : List V} (hl : xs.length ≤ 10000) (s : S F cs H) (k : ∀ p H', S F ((p, .lst xs) :: cs) H' → Q (.ref p) H') : NewLst Q xs H := ⟨sz4 hl, fun p hp => k p _ (s.alloc hp)⟩
theorem x_if {p A B : Prop} {_ : Decidable p} (h1 : p → A) (h2 : ¬ p → B) : if decide p = true then A else B := by
  by_cases h : p
  · rw [decide_eq_true h, if_pos rfl]; exact h1 h
  · rw [decide_eq_false h, if_neg Bool.false_ne_true]; exact h2 h
theorem x_ifn {p A B : Prop} {_ : Decidable p} (h1 : ¬ p → A) (h2 : p → B) : if (!decide p) = true then A else B := by
  by_cases h : p
  · rw [decide_eq_true h]; exact h2 h
  · rw [decide_eq_false h]; exact h1 h
theorem x_ifb {b : Bool} {A B : Prop} (h1 : b = true → A) (h2 : b = false → B) : if b = true then A else B := by
  cases b
  · exact h2 rfl
  · exact h1 rfl
theorem x_ntF {A B : Prop} (q : A) : if (!false) = true then A else B := q
theorem x_ntT {A B : Prop} (q : B) : if (!true) = true then A else B := q
theorem x_share {p A B : Prop} {_ : Decidable p} (hF : B) (hT : p → B → A) : if decide p = true then A else B := x_if (fun h => hT h hF) fun _ => hF
theorem x_share_or {p A B : Prop} {_ : Decidable p} (hT : A) (hF : ¬ p → A → B) : if decide p = true then A else B := x_if (fun _ => hT) fun h => hF h hT
theorem x_yes {b : Bool} {A B : Prop} (h : b = true) (q : A) : if b = true then A else B := by rw [if_pos h]; exact q
theorem x_no {b : Bool} {A B : Prop} (h : b = false) (q : B) : if b = true then A else B := by rw [if_neg (by rw [h]; exact Bool.false_ne_true)]; exact q
end
end My

/-! ### rules by values, several kinds at once -/
namespace My
open PySem PySem.Spec L2
theorem pi_sq {X : Cx} {tg l : Expr} {tl : TE} (hl : PE X l tl) :
    PI X tg l (fun σ H R => tl σ H fun x H1 => ∃ a, x = .ref a ∧ (((∃ xs, SqL X.K H1 a xs) ∧ R (Itl X.K a) H1) ∨ ((∃ xs, SqT X.K H1 a xs) ∧ R (Itt X.K a) H1))) := by
  constructor
  intro pins s σ H R I h
  refine thn (hl.run pins s σ H _ I h) ?_
  rintro v s1 ⟨x, H1, I1, r1, a, rfl, q1⟩
  cases r1
  have fresh : ∀ b ∈ [s1.heap.objs.size], FpOk X pins H1 b := by
    intro b hb
    cases List.mem_singleton.mp hb
    exact I1.fpOk (Nat.le_refl _) (I1.hok.fresh (Nat.le_refl _))
  rcases q1 with ⟨⟨xs, hq⟩, q⟩ | ⟨⟨xs, hq⟩, q⟩
  · obtain ⟨its, _, p, _⟩ := I1.list hq
    refine wpAny_pyIter_list p.isList ⟨s1.heap.objs.size, [s1.heap.objs.size], _, _, H1, rfl, ?_, turn_list a _, ⟨_, Heap.get?_push_size _ rfl, rfl, rfl⟩, fresh, q⟩
    exact I1.kept (t' := s1.toks) fun b o e => Heap.get?_push_of_some _ e
  · obtain ⟨its, _, p, _⟩ := I1.tuple hq
    refine wpAny_pyIter_tuple (items := its.toArray) p ⟨s1.heap.objs.size, [s1.heap.objs.size], _, _, H1, rfl, ?_, turn_tuple a _, ⟨_, Heap.get?_push_size _ rfl, rfl, rfl⟩, fresh, q⟩
    exact I1.kept (t' := s1.toks) fun b o e => Heap.get?_push_of_some _ e
end My
namespace My
open PySem PySem.Spec L2
section
variable {X : Cx}
def rI2 (C : Int → Int → Prop) (g : Int → Int → V) : R2 := rI C g
abbrev rSub1 : R2 := rI0 fun i j => .int (i - j)
abbrev rDiv1 : R2 := rI CDivW fun i j => .int (i / j)
def rMod1 : R2 := rI (fun _ j => 0 < j) fun i j => .int (i % j)
theorem op_mod1 : OpR X (binaryOp .Mod) rMod1 := by
  intro pins s σ H x y v u Q I rx ry h
  obtain ⟨i, j, rfl, rfl, hj, q⟩ := h
  refine op_modN pins s σ H _ _ v u Q I rx ry ⟨i, j, rfl, rfl, by omega, ?_⟩
  show Q (.int (i.fmod j)) H
  rw [Int.fmod_eq_emod_of_nonneg i (by omega)]
  exact q
/-- + of ints, texts, lists, tuples -/
def rAdd1 (K : PySem.W.Frag) : R2 := fun x y H Q => rI0 (fun i j => .int (i + j)) x y H Q ∨ (∃ i j, x = .str i ∧ y = .str j ∧ i.length + j.length ≤ sizeLine ∧ Q (.str (i ++ j)) H) ∨ rCat x y H Q ∨ rCatA K x y H Q
theorem op_add1 : OpR X (binaryOp .Add) (rAdd1 X.K) := op_add.or (op_add_str.or (op_cat.or op_catA))
/-- text * int -/
def rRepS : R2 := fun x y H Q => ∃ z n, x = .str z ∧ y = .int n ∧ MulOk z n ∧ Q (.str (Txt.mul z n)) H
theorem op_repS : OpR X (binaryOp .Mult) rRepS := by
  rintro pins s σ H x y v u Q I rx ry ⟨z, n, rfl, rfl, ok, q⟩
  obtain ⟨t, rfl⟩ := rx
  obtain ⟨t', rfl⟩ := ry
  exact SB.mul ok fun t2 k => ⟨.str (Txt.mul z n), H, I.tok k, ⟨_, rfl⟩, q⟩
def rMul1 (K : PySem.W.Frag) : R2 := fun x y H Q => rI (fun i j => CMul i j ∨ CMulW i j) (fun i j => .int (i * j)) x y H Q ∨ rRep x y H Q ∨ rRepT K x y H Q ∨ rRepS x y H Q
theorem op_mulX1 : OpR X (binaryOp .Mult) (rI (fun i j => CMul i j ∨ CMulW i j) fun i j => .int (i * j)) := by
  intro pins s σ H x y v u Q I rx ry h
  obtain ⟨i, j, rfl, rfl, hc | hc, q⟩ := h
  · exact op_mul pins s σ H _ _ v u Q I rx ry ⟨i, j, rfl, rfl, hc, q⟩
  · exact op_mulW pins s σ H _ _ v u Q I rx ry ⟨i, j, rfl, rfl, hc, q⟩
theorem op_mul1 : OpR X (binaryOp .Mult) (rMul1 X.K) := op_mulX1.or (op_rep.or (op_repT.or op_repS))
def rEq1 (K : PySem.W.Frag) : R2 := fun x y H Q => rEq x y H Q ∨ rEqD K x y H Q
def rNe1 (K : PySem.W.Frag) : R2 := fun x y H Q => rNe x y H Q ∨ rNeD K x y H Q
theorem op_eq1 (hu : X.A.units + 64 < cLine) : OpR X (compareOp .Eq) (rEq1 X.K) := op_eq.or (op_eqD hu)
theorem op_ne1 (hu : X.A.units + 64 < cLine) : OpR X (compareOp .NotEq) (rNe1 X.K) := op_ne.or (op_neD hu)
abbrev rLt1 : R2 := rI0 fun i j => .bl (decide (i < j))
abbrev rLe1 : R2 := rI0 fun i j => .bl (decide (i ≤ j))
abbrev rGt1 : R2 := rI0 fun i j => .bl (decide (j < i))
abbrev rGe1 : R2 := rI0 fun i j => .bl (decide (j ≤ i))
/-- one sign in a text | an item of a sequence -/
def rIn1 (K : PySem.W.Frag) : R2 := fun x y H Q => (∃ (c : Nat) (z : Str), x = .str ⟨#[c]⟩ ∧ y = .str z ∧ Q (.bl (decide (c ∈ z.cps.toList))) H) ∨ rIn K false x y H Q
def rNotIn1 (K : PySem.W.Frag) : R2 := fun x y H Q => (∃ (c : Nat) (z : Str), x = .str ⟨#[c]⟩ ∧ y = .str z ∧ Q (.bl (!decide (c ∈ z.cps.toList))) H) ∨ rIn K true x y H Q
theorem op_in1 : OpR X (compareOp .In) (rIn1 X.K) := op_in_sign.or op_in_seq
theorem op_notIn1 : OpR X (compareOp .NotIn) (rNotIn1 X.K) := op_notIn_sign.or op_notIn_seq
/-- is None, is True, is False (also of other things) -/
def rIs1 : R2 := fun x y H Q => (y = .non ∧ Q (.bl (decide (x = .non))) H) ∨ ∃ b, y = .bl b ∧ Q (.bl (decide (x = .bl b))) H
def rIsNot1 : R2 := fun x y H Q => y = .non ∧ Q (.bl (!decide (x = .non))) H
theorem op_isNot1 : OpR X (compareOp .IsNot) rIsNot1 := op_notN
theorem op_isC : OpR X (compareOp .Is) (fun x y H Q => ∃ b, y = .bl b ∧ Q (.bl (decide (x = .bl b))) H) := by
  intro pins s σ H x y v u Q I rx ry h
  obtain ⟨b, rfl, q⟩ := h
  cases ry
  show wpAny _ _ ((isSame v (Value.bool b)) >>= fun z => pure (Value.bool z)) _ _ s
  refine wpAny_bind ?_
  refine wpAny_isSame_plain ?_ ?_
  · cases x <;> first
      | (cases rx; rfl)
      | (obtain ⟨t, rfl⟩ := rx; rfl)
  · have e : (v == Value.bool b) = decide (x = .bl b) := by
      cases x with
      | bl a =>
        cases rx
        rw [Bool.eq_iff_iff]
        simp
      | _ => first
          | (cases rx; symm; rw [decide_eq_false (by intro z; cases z)]; rfl)
          | (obtain ⟨t, rfl⟩ := rx; symm; rw [decide_eq_false (by intro z; cases z)]; rfl)
    rw [e]
    exact wpAny_pure ⟨.bl (decide (x = .bl b)), H, I, rfl, q⟩
theorem op_is1 : OpR X (compareOp .Is) rIs1 := op_isN.or op_isC
def rLen1 (K : PySem.W.Frag) : List V → Hp → VK → Prop := fun xs H Q => (∃ p ys, xs = [.ref p] ∧ (SqL K H p ys ∨ SqT K H p ys) ∧ Q (.int ys.length) H) ∨ (∃ z, xs = [.str z] ∧ z.length ≤ sizeLine ∧ Q (.int z.length) H)
theorem callOr {f : Value} {r r' : List V → Hp → VK → Prop} (h : CallR X f r) (h' : CallR X f r') : CallR X f (fun xs H Q => r xs H Q ∨ r' xs H Q) := by
  intro pins s σ H xs us Q I rr q
  rcases q with q | q
  · exact h pins s σ H xs us Q I rr q
  · exact h' pins s σ H xs us Q I rr q
theorem call_len1 : CallR X (.builtin "len") (rLen1 X.K) := callOr call_len_seq call_len_str
def rInt1 : List V → Hp → VK → Prop := fun xs H Q => ((∃ i, xs = [.int i] ∧ Q (.int i) H) ∨ ∃ k, xs = [.bl k] ∧ Q (.int (if k then 1 else 0)) H) ∨ (∃ a n, xs = [.str a] ∧ PySem.intText? a = some n ∧ a.length ≤ 640 ∧ Q (.int n) H)
theorem call_int_1 : CallR X (.type "int") rInt1 := callOr call_int1 call_int_str
def rAbs1 : List V → Hp → VK → Prop := fun xs H Q => ∃ i, xs = [.int i] ∧ Q (.int (if i < 0 then -i else i)) H
theorem call_abs1 : CallR X (.builtin "abs") rAbs1 := call_abs
def rList1 (K : PySem.W.Frag) : List V → Hp → VK → Prop := fun xs H Q => ∃ p ys, xs = [.ref p] ∧ (SqL K H p ys ∨ SqT K H p ys) ∧ ∀ l, H l = none → Q (.ref l) (upd H l (.lst ys))
theorem call_list1 : CallR X (.type "list") (rList1 X.K) := call_list_of
def rTuple1 (K : PySem.W.Frag) : List V → Hp → VK → Prop := fun xs H Q => ∃ p ys, xs = [.ref p] ∧ ((SqL K H p ys ∧ ∀ l, H l = none → Q (.ref l) (upd H l (.tup ys))) ∨ (SqT K H p ys ∧ Q (.ref p) H))
theorem call_tuple1 : CallR X (.type "tuple") (rTuple1 X.K) := call_tuple_of
def rIx1 (K : PySem.W.Frag) : R2 := rIx K
theorem ix_1 : IxR X (rIx1 X.K) := ix_seq
def rBitAnd1 : R2 := rI0 fun i j => .int (Builtin.bitAnd i j)
def rBitOr1 : R2 := rI0 fun i j => .int (Builtin.bitOr i j)
def rBitXor1 : R2 := rI0 fun i j => .int (Builtin.bitXor i j)
def rShl1 : R2 := rI CShl fun i j => .int (i * 2 ^ j.toNat)
def rShr1 : R2 := rI (fun _ j => 0 ≤ j) fun i j => .int (i / 2 ^ j.toNat)
def rPow1 : R2 := rI CPow fun i j => .int (i ^ j.toNat)
theorem op_band1 : OpR X (binaryOp .BitAnd) rBitAnd1 := op_and
theorem op_bor1 : OpR X (binaryOp .BitOr) rBitOr1 := op_or
theorem op_bxor1 : OpR X (binaryOp .BitXor) rBitXor1 := op_xor
theorem op_shl1 : OpR X (binaryOp .LShift) rShl1 := op_shlW
theorem op_shr1 : OpR X (binaryOp .RShift) rShr1 := op_shr
theorem op_pow1 : OpR X (binaryOp .Pow) rPow1 := op_pow
def rNeg1 : V → Hp → VK → Prop := rU fun i => .int (-i)
theorem un_neg1 : UnR X (unaryOp .USub) rNeg1 := un_neg
/-- a test by a value's truth -/
def tTr (K : PySem.W.Frag) (ta : TE) : TT := fun σ H Q => ta σ H fun x H' => ∃ k, TruV K x H' k ∧ Q k H'
theorem pt_tr {a : Expr} {ta : TE} (ha : PE X a ta) (he : ∀ whole, isTrue a X.env whole = (do let v ← whole; standAt a.pos; holding [v] (truthy v))) : PT X a (tTr X.K ta) := pt_truth ha he
/-- a for over a list or a tuple -/
def iSq (K : PySem.W.Frag) (tl : TE) : TI := fun σ H R => tl σ H fun x H1 => ∃ a, x = .ref a ∧ (((∃ xs, SqL K H1 a xs) ∧ R (Itl K a) H1) ∨ ((∃ xs, SqT K H1 a xs) ∧ R (Itt K a) H1))
theorem pi_sq1 {tg l : Expr} {tl : TE} (hl : PE X l tl) : PI X tg l (iSq X.K tl) := pi_sq hl
end

/-! ### a def of the text as callers see it -/
def rIsi1 (K : PySem.W.Frag) : List V → Hp → VK → Prop := fun xs H Q => rIsi K xs H Q ∨ rIsiT K xs H Q
theorem call_isi1 {X : Cx} : CallR X (.builtin "isinstance") (rIsi1 X.K) := callOr call_isi call_isiT
def rSplit1 : V → List V → Hp → VK → Prop := fun x xs H Q => ∃ a b, x = .str a ∧ xs = [.str b] ∧ (b.length == 0) = false ∧ a.length + 2 ≤ sizeLine ∧ rNewStrs (Txt.split a b) H Q
def rFind1 : V → List V → Hp → VK → Prop := fun x xs H Q => ∃ a b, x = .str a ∧ xs = [.str b] ∧ Q (.int (Txt.find a b)) H
section
variable {X : Cx} {o e : Expr} {to te : TE} {apos pos : Pos}
theorem pe_split1 (ho : PE X o to) (he : PE X e te) (hs : starEach [e] X.env = [(false, eval e X.env)] := by rfl) (hbase : attributeBase o "split" X.env (eval o X.env) = eval o X.env := by rfl) (hline : (apos.endLine == pos.line) = true := by rfl) :
    PE X (.Call (.Attribute o "split" apos) [e] [] pos) (tM1 rSplit1 to te) := pe_split ho he hs hbase hline
theorem pe_find1 (ho : PE X o to) (he : PE X e te) (hs : starEach [e] X.env = [(false, eval e X.env)] := by rfl) (hbase : attributeBase o "find" X.env (eval o X.env) = eval o X.env := by rfl) (hline : (apos.endLine == pos.line) = true := by rfl) :
    PE X (.Call (.Attribute o "find" apos) [e] [] pos) (tM1 rFind1 to te) := pe_m1 PySem.F.slot_str_find PySem.F.type_str_find mt_find ho he hs hbase hline
theorem pe_int_g {x : Str} {i : Int} {pos : Pos} (hg : Gl X x) (hm : ∃ t, X.mg x = some (.int i t)) (hd : (x == ("__debug__" : Str)) = false := by decide) : PE X (.Name x pos) (tC (.int i)) := by
  obtain ⟨t, hm⟩ := hm
  exact pe_glob hg hm ⟨_, rfl⟩ hd
theorem pe_str_g {x z : Str} {pos : Pos} (hg : Gl X x) (hm : ∃ t, X.mg x = some (.str z t)) (hd : (x == ("__debug__" : Str)) = false := by decide) : PE X (.Name x pos) (tC (.str z)) := by
  obtain ⟨t, hm⟩ := hm
  exact pe_glob hg hm ⟨_, rfl⟩ hd
end
structure DefOk (P : Program) (w : World) (K : PySem.W.Frag) (mg : Str → Option Value) (base : Heap) (x : Str) (k : Nat) (ps : List Str) (ds : List V) (sp : Sp) : Prop where
  ex : ∃ (f : Addr) (fd : FuncData) (dsv : List Value), FnOk P w K mg base (L2.CX P w) k f fd ps sp ∧ mg x = some (.ref f) ∧ PySem.W.keepIn K (.ref f) = true ∧ Binds K fd ps dsv ∧ Vals ds dsv
section
variable {X : Cx} {k : Nat} {sp : Sp} {E : XK} {x : Str} {p pos : Pos} {e : Expr} {es : List Expr} {t : TA} {ps : List Str} {ds : List V}
theorem pe_def (D : DefOk X.prog X.w X.K X.mg X.base x k ps ds sp) (hr : Room k X.A) (hg : Gl X x) (hx : Passes (L2.CX X.prog X.w) X E) (ha : PA X (e :: es) t)
    (hdb : (x == ("__debug__" : Str)) = false := by decide) (he : starEach (e :: es) X.env = (false, eval e X.env) :: starEach es X.env := by rfl) (hpl : (backTo pos (starEach es X.env)).any (·.1) = false := by rfl) :
    PE X (.Call (.Name x p) (e :: es) [] pos) (tCall sp ds E t) := by
  obtain ⟨f, fd, dsv, F, hm, hk, hb, hv⟩ := D.ex
  exact pe_call F hr hg hm hk hb hv hx ha hdb he hpl
theorem pe_def0 (D : DefOk X.prog X.w X.K X.mg X.base x k ps ds sp) (hr : Room k X.A) (hg : Gl X x) (hx : Passes (L2.CX X.prog X.w) X E)
    (hdb : (x == ("__debug__" : Str)) = false := by decide) : PE X (.Call (.Name x p) [] [] pos) (tCall sp ds E tNil) := by
  obtain ⟨f, fd, dsv, F, hm, hk, hb, hv⟩ := D.ex
  exact pe_call0 F hr hg hm hk hb hv hx hdb
end
theorem hu64 {k : Nat} {A : Around} (hr : Room k A) : A.units + 64 < cLine := Nat.lt_of_le_of_lt (Nat.le_refl _) hr.units
end My

/-! ### steps over the rules of several kinds -/
namespace My
open PySem PySem.Spec L2
section
variable {σ σ' : L2.St} {H : Hp} {Q : VK} {K : PySem.W.Frag} {F : Hp → Prop} {cs : List (Addr × HO)} {p q : Addr} {x y v : V} {xs ys : List V} {i j : Int}
theorem x_start {t : TS} {D : Ends} {N : List Str} {vs : List V} (h : t D σ' H) (e : start N vs = σ') : t D (start N vs) H := by rw [e]; exact h
theorem x_addI (q : Q (.int (i + j)) H) : rAdd1 K (.int i) (.int j) H Q := .inl ⟨i, j, rfl, rfl, q⟩
theorem x_addS {a b : Str} (h : a.length + b.length ≤ sizeLine) (q : Q (.str (a ++ b)) H) : rAdd1 K (.str a) (.str b) H Q := .inr (.inl ⟨a, b, rfl, rfl, h, q⟩)
theorem x_addL (s : S F cs H) (h1 : (p, .lst xs) ∈ cs) (h2 : (q, .lst ys) ∈ cs) (h : xs.length + ys.length ≤ sizeLine) (k : ∀ r H', S F ((r, .lst (xs ++ ys)) :: cs) H' → Q (.ref r) H') : rAdd1 K (.ref p) (.ref q) H Q :=
  .inr (.inr (.inl ⟨p, q, xs, ys, rfl, rfl, s.has h1, s.has h2, h, fun r hr => k r _ (s.alloc hr)⟩))
theorem x_mulI (c : CMul i j ∨ CMulW i j) (q : Q (.int (i * j)) H) : rMul1 K (.int i) (.int j) H Q := .inl ⟨i, j, rfl, rfl, c, q⟩
theorem cmul_l (h : -(2 ^ 64) < i ∧ i < 2 ^ 64) : CMul i j ∨ CMulW i j := .inl (.inl h)
theorem cmul_r (h : -(2 ^ 64) < j ∧ j < 2 ^ 64) : CMul i j ∨ CMulW i j := .inl (.inr h)
theorem x_mod (h : 0 < j) (q : Q (.int (i % j)) H) : rMod1 (.int i) (.int j) H Q := ⟨i, j, rfl, rfl, h, q⟩
theorem x_eqS (hs : scal x y = true) (q : Q (.bl (decide (x = y))) H) : rEq1 K x y H Q := .inl ⟨hs, q⟩
theorem x_neS (hs : scal x y = true) (q : Q (.bl (!decide (x = y))) H) : rNe1 K x y H Q := .inl ⟨hs, q⟩
theorem dec_intV : (V.int i = V.int j) = (i = j) := by simp
theorem x_eqI (q : Q (.bl (decide (i = j))) H) : rEq1 K (.int i) (.int j) H Q := .inl ⟨rfl, by simp only [V.int.injEq]; exact q⟩
theorem x_neI (q : Q (.bl (!decide (i = j))) H) : rNe1 K (.int i) (.int j) H Q := .inl ⟨rfl, by simp only [V.int.injEq]; exact q⟩
theorem x_lenL (h : SqL K H p xs ∨ SqT K H p xs) (q : Q (.int xs.length) H) : rLen1 K [.ref p] H Q := .inl ⟨p, xs, rfl, h, q⟩
theorem x_lenC (s : S F cs H) (h : (p, .lst xs) ∈ cs) (q : Q (.int xs.length) H) : rLen1 K [.ref p] H Q := .inl ⟨p, xs, rfl, .inl (sq_l (s.has h)), q⟩
theorem x_lenS {z : Str} (h : z.length ≤ sizeLine) (q : Q (.int z.length) H) : rLen1 K [.str z] H Q := .inr ⟨z, rfl, h, q⟩
theorem x_ixL (h : SqL K H p xs) (e : atI xs i = some v) (q : Q v H) : rIx1 K (.ref p) (.int i) H Q := .inl ⟨p, xs, i, v, rfl, rfl, h, e, q⟩
theorem x_ixT (h : SqT K H p xs) (e : atI xs i = some v) (q : Q v H) : rIx1 K (.ref p) (.int i) H Q := .inr (.inl ⟨p, xs, i, v, rfl, rfl, h, e, q⟩)
theorem x_ixS {z : Str} {c : Nat} (h : z.length ≤ sizeLine) (e : atI z.cps.toList i = some c) (q : Q (.str ⟨#[c]⟩) H) : rIx1 K (.str z) (.int i) H Q := .inr (.inr ⟨z, i, c, rfl, rfl, h, e, q⟩)
theorem x_ixC (s : S F cs H) (h : (p, .lst xs) ∈ cs) (e : atI xs i = some v) (q : Q v H) : rIx1 K (.ref p) (.int i) H Q := x_ixL (sq_l (s.has h)) e q
theorem x_ixCT (s : S F cs H) (h : (p, .tup xs) ∈ cs) (e : atI xs i = some v) (q : Q v H) : rIx1 K (.ref p) (.int i) H Q := x_ixT (sq_t (s.has h)) e q
theorem x_int (q : Q (.int i) H) : rInt1 [.int i] H Q := .inl (.inl ⟨i, rfl, q⟩)
theorem x_intB {b : Bool} (q : Q (.int (if b then 1 else 0)) H) : rInt1 [.bl b] H Q := .inl (.inr ⟨b, rfl, q⟩)
theorem x_intS {z : Str} {n : Int} (h : PySem.intText? z = some n) (hl : z.length ≤ 640) (q : Q (.int n) H) : rInt1 [.str z] H Q := .inr ⟨z, n, rfl, h, hl, q⟩
theorem x_abs (q : Q (.int (if i < 0 then -i else i)) H) : rAbs1 [.int i] H Q := ⟨i, rfl, q⟩
theorem x_isN (q : Q (.bl (decide (x = .non))) H) : rIs1 x .non H Q := .inl ⟨rfl, q⟩
theorem x_isB {b : Bool} (q : Q (.bl (decide (x = .bl b))) H) : rIs1 x (.bl b) H Q := .inr ⟨b, rfl, q⟩
theorem x_notN (q : Q (.bl (!decide (x = .non))) H) : rIsNot1 x .non H Q := ⟨rfl, q⟩
theorem x_neg (q : Q (.int (-i)) H) : rNeg1 (.int i) H Q := ⟨i, rfl, q⟩
theorem x_pow (h : CPow i j) (q : Q (.int (i ^ j.toNat)) H) : rPow1 (.int i) (.int j) H Q := ⟨i, j, rfl, rfl, h, q⟩
theorem x_div (h : CDivW i j) (q : Q (.int (i / j)) H) : rDiv1 (.int i) (.int j) H Q := ⟨i, j, rfl, rfl, h, q⟩
theorem cdiv (h0 : 0 < j) (h : j < 2 ^ 8000) : CDivW i j := wide_div h0 (b := 8000) (by omega) (by decide) (by decide)
theorem x_tr {ta : TE} {R : Bool → Hp → Prop} (h : ta σ H fun x H' => ∃ k, TruV K x H' k ∧ R k H') : tTr K ta σ H R := h
theorem x_trB {b : Bool} {R : Bool → Prop} (q : R b) : ∃ k, TruV K (.bl b) H k ∧ R k := ⟨b, rfl, q⟩
theorem x_gsub {to ti : TE} {t : TSet} {R : L2.St → Hp → Prop} (h : to σ H fun o H1 => ti σ H1 fun i H2 => t o i v H2 fun H3 => R σ H3) : gSub to ti t v σ H R := h
theorem x_setL (s : S F cs H) {k : Nat} (hc : cs[k]? = some (p, .lst xs)) {n : Nat} (e : ixN xs.length i = some n) {R : Hp → Prop} (q : ∀ H', S F (cs.set k (p, .lst (xs.set n v))) H' → R H') : rSetL (.ref p) (.int i) v H R :=
  ⟨p, xs, i, n, rfl, rfl, s.at k hc, e, q _ (s.set k hc _)⟩
theorem x_append (s : S F cs H) {k : Nat} (hc : cs[k]? = some (p, .lst xs)) (hl : xs.length < sizeLine) (q : ∀ H', S F (cs.set k (p, .lst (xs ++ [v]))) H' → Q .non H') : rAppend (.ref p) [v] H Q :=
  ⟨p, xs, v, rfl, rfl, s.at k hc, hl, q _ (s.set k hc _)⟩
theorem x_bm {T : String} {r : V → List V → Hp → VK → Prop} {to : TE} {t : TA} (h : to σ H fun x H1 => tyV K T x H1 ∧ t σ H1 fun xs H2 => r x xs H2 Q) : tBM K T r to t σ H Q := h
theorem x_tyL (h : SqL K H p xs) {A : Prop} (q : A) : tyV K "list" (.ref p) H ∧ A := ⟨.inl ⟨rfl, xs, h⟩, q⟩
theorem x_tyC (s : S F cs H) (h : (p, .lst xs) ∈ cs) {A : Prop} (q : A) : tyV K "list" (.ref p) H ∧ A := ⟨.inl ⟨rfl, xs, sq_l (s.has h)⟩, q⟩
theorem perm_front {α : Type} : ∀ {l : List α} {k : Nat} {x : α}, l[k]? = some x → (x :: l.eraseIdx k).Perm l
  | [], _, _, h => by simp at h
  | a :: r, 0, x, h => by
    have e : a = x := by simpa using h
    subst e
    exact List.Perm.refl _
  | a :: r, k + 1, x, h => by
    have ih := perm_front (l := r) (k := k) (x := x) (by simpa using h)
    exact (List.Perm.swap a x _).trans (ih.cons a)
theorem perm_set {α : Type} : ∀ {l : List α} {k : Nat} {x y : α}, l[k]? = some x → (y :: l.eraseIdx k).Perm (l.set k y)
  | [], _, _, _, h => by simp at h
  | a :: r, 0, x, y, h => List.Perm.refl _
  | a :: r, k + 1, x, y, h => by
    have ih := perm_set (l := r) (k := k) (x := x) (y := y) (by simpa using h)
    exact (List.Perm.swap a y _).trans (ih.cons a)
theorem S.front (s : S F cs H) {k : Nat} {c : Addr × HO} (h : cs[k]? = some c) : S F (c :: cs.eraseIdx k) H := by
  exact s.perm (perm_front h).symm
theorem S.back {k : Nat} {c c' : Addr × HO} (h : cs[k]? = some c) (s : S F (c' :: cs.eraseIdx k) H) : S F (cs.set k c') H := by
  exact s.perm (perm_set h)
end
end My

/-! ### loops -/
namespace My
open PySem PySem.Spec L2
/-- a list (true) or a tuple (false) that is to be read -/
def SqB : Bool → PySem.W.Frag → Hp → Addr → List V → Prop
  | true => SqL
  | false => SqT
def ItB : Bool → PySem.W.Frag → Addr → It
  | true, K, p => Itl K p
  | false, K, p => Itt K p
instance {b : Bool} {K : PySem.W.Frag} {a : Addr} {xs : List V} : Mono (fun H => SqB b K H a xs) := ⟨fun _ _ e h => by
  cases b
  · exact Same.seqT e h
  · exact Same.seq e h⟩
theorem SqB.or {b : Bool} {K : PySem.W.Frag} {H : Hp} {a : Addr} {xs : List V} (h : SqB b K H a xs) : SqL K H a xs ∨ SqT K H a xs := by
  cases b
  · exact .inr h
  · exact .inl h
section
variable {σ : L2.St} {H : Hp} {Q : VK} {K : PySem.W.Frag} {F : Hp → Prop} {cs : List (Addr × HO)} {p q : Addr} {x y v : V} {xs ys : List V} {i j : Int} {b : Bool}
variable {nx : L2.St → Hp → Prop} {rt : VK} {g : TG} {tb : TS} {tt : TT} {te : TE} {vs : List Nat}
/-- what a for asks of its iterator -/
def ForW (J : It) (σ : L2.St) (H1 : Hp) (nx : L2.St → Hp → Prop) (rt : VK) (g : TG) (tb : TS) : Prop := ∃ W : Nat → Nat → L2.St → Hp → Prop, (∃ m, W 0 m σ H1) ∧ ∀ i m σ H, W i m σ H →
  (J.stop i H ∧ nx σ H) ∨ (J.go i H ∧ ∃ N : L2.St → Hp → Prop, (∀ σ' H', N σ' H' → ∃ m', m' < m ∧ W (i + 1) m' σ' H') ∧ ∀ x H', J.yld i H x H' → g x σ H' fun σ2 H2 => tb ⟨N, rt, nx, N⟩ σ2 H2)
theorem x_forW {wi : TI} {bk ct : L2.St → Hp → Prop} (h : wi σ H fun J H1 => ForW J σ H1 nx rt g tb) : tFor wi g tb ⟨nx, rt, bk, ct⟩ σ H := h
theorem forW_it {J : It} {n : Nat} {G : Hp → Prop} {Y : Nat → Hp → V → Hp → Prop} (w : Walk J n G Y) (Pv : Nat → L2.St → Hp → Prop) (h0 : Pv 0 σ H) (hG : ∀ i σ H, i ≤ n → Pv i σ H → G H)
    (hs : ∀ i x σ H H', i < n → Pv i σ H → Y i H x H' → g x σ H' fun σ2 H2 => tb ⟨Pv (i + 1), rt, nx, Pv (i + 1)⟩ σ2 H2) (hd : ∀ σ H, Pv n σ H → nx σ H) : ForW J σ H nx rt g tb :=
  for_it (D := ⟨nx, rt, nx, nx⟩) w Pv h0 hG hs hd
theorem x_iSq {R : It → Hp → Prop} {tl : TE} (h : tl σ H fun x H1 => ∃ a, x = .ref a ∧ (((∃ xs, SqL K H1 a xs) ∧ R (Itl K a) H1) ∨ ((∃ xs, SqT K H1 a xs) ∧ R (Itt K a) H1))) : iSq K tl σ H R := h
theorem x_iR1 {R : It → Hp → Prop} {ta : TA} (h : ta σ H fun vs H1 => ∃ j : Int, vs = [.int j] ∧ -(2 ^ 62) ≤ j ∧ j < 2 ^ 62 ∧ R (Itr 0 j.toNat) H1) : iRng1 ta σ H R := h
theorem x_iR2 {R : It → Hp → Prop} {ta : TA} (h : ta σ H fun vs H1 => ∃ i j : Int, vs = [.int i, .int j] ∧ (-(2 ^ 62) ≤ i ∧ i < 2 ^ 62 ∧ -(2 ^ 62) ≤ j ∧ j < 2 ^ 62) ∧ R (Itr i (j - i).toNat) H1) : iRng2 ta σ H R := h
theorem x_iStr {R : It → Hp → Prop} {te : TE} (h : te σ H fun v H1 => ∃ x, v = .str x ∧ R (Its x) H1) : iStr te σ H R := h
theorem x_sqR {R : It → Hp → Prop} (h : SqB b K H p xs) (q : R (ItB b K p) H) : ∃ a, V.ref p = .ref a ∧ (((∃ xs, SqL K H a xs) ∧ R (Itl K a) H) ∨ ((∃ xs, SqT K H a xs) ∧ R (Itt K a) H)) := by
  cases b
  · exact ⟨p, rfl, .inr ⟨⟨xs, h⟩, q⟩⟩
  · exact ⟨p, rfl, .inl ⟨⟨xs, h⟩, q⟩⟩
theorem walk_b : Walk (ItB b K p) xs.length (fun H => SqB b K H p xs) (YAt xs) := by
  cases b
  · exact walk_tup
  · exact walk_list
/-- for x in (a list or a tuple) -/
theorem x_forB (hq : SqB b K H p xs) (Pv : Nat → L2.St → Hp → Prop) (h0 : Pv 0 σ H) (hG : ∀ i σ H, Pv i σ H → SqB b K H p xs)
    (hs : ∀ i x σ H, xs[i]? = some x → Pv i σ H → g x σ H fun σ2 H2 => tb ⟨Pv (i + 1), rt, nx, Pv (i + 1)⟩ σ2 H2) (hd : ∀ σ H, Pv xs.length σ H → nx σ H) :
    ∃ a, V.ref p = .ref a ∧ (((∃ xs, SqL K H a xs) ∧ ForW (Itl K a) σ H nx rt g tb) ∨ ((∃ xs, SqT K H a xs) ∧ ForW (Itt K a) σ H nx rt g tb)) :=
  x_sqR (R := fun J H => ForW J σ H nx rt g tb) hq (forW_it walk_b Pv h0 (fun i σ H _ h => hG i σ H h) (fun i x σ H H' hi hp y => by
    obtain ⟨rfl, hx⟩ := y
    exact hs i x σ H' hx hp) hd)
/-- for i in range(n) -/
theorem x_forR1 {n : Nat} (hj : j = (n : Int)) (hn : n < 2 ^ 61) (Pv : Nat → L2.St → Hp → Prop) (h0 : Pv 0 σ H)
    (hs : ∀ i σ H, i < n → Pv i σ H → g (.int (i : Nat)) σ H fun σ2 H2 => tb ⟨Pv (i + 1), rt, nx, Pv (i + 1)⟩ σ2 H2) (hd : ∀ σ H, Pv n σ H → nx σ H) :
    ∃ k : Int, [V.int j] = [.int k] ∧ -(2 ^ 62) ≤ k ∧ k < 2 ^ 62 ∧ ForW (Itr 0 k.toNat) σ H nx rt g tb := by
  subst hj
  refine ⟨n, rfl, by omega, by omega, ?_⟩
  have e : ((n : Int)).toNat = n := Int.toNat_natCast n
  rw [e]
  refine forW_it walk_range Pv h0 (fun _ _ _ _ _ => True.intro) (fun i x σ H H' hi hp y => ?_) hd
  obtain ⟨rfl, rfl⟩ := y
  have e0 : (0 : Int) + (i : Nat) = (i : Nat) := Int.zero_add _
  show g (.int (0 + (i : Nat))) σ H' _
  rw [e0]
  exact hs i σ H' hi hp
/-- for i in range(a, b) -/
theorem x_forR2 {n : Nat} (hi0 : -(2 ^ 61) ≤ i ∧ i < 2 ^ 61) (hj : j = i + (n : Int)) (hn : n < 2 ^ 61) (Pv : Nat → L2.St → Hp → Prop) (h0 : Pv 0 σ H)
    (hs : ∀ (m : Nat) σ H, m < n → Pv m σ H → g (.int (i + (m : Nat))) σ H fun σ2 H2 => tb ⟨Pv (m + 1), rt, nx, Pv (m + 1)⟩ σ2 H2) (hd : ∀ σ H, Pv n σ H → nx σ H) :
    ∃ k l : Int, [V.int i, V.int j] = [.int k, .int l] ∧ (-(2 ^ 62) ≤ k ∧ k < 2 ^ 62 ∧ -(2 ^ 62) ≤ l ∧ l < 2 ^ 62) ∧ ForW (Itr k (l - k).toNat) σ H nx rt g tb := by
  subst hj
  refine ⟨i, _, rfl, by omega, ?_⟩
  have e : (i + (n : Int) - i).toNat = n := by omega
  rw [e]
  refine forW_it walk_range Pv h0 (fun _ _ _ _ _ => True.intro) (fun m x σ H H' hi hp y => ?_) hd
  obtain ⟨rfl, rfl⟩ := y
  exact hs m σ H' hi hp
/-- for c in text -/
theorem x_forS {z : Str} (Pv : Nat → L2.St → Hp → Prop) (h0 : Pv 0 σ H)
    (hs : ∀ (m : Nat) c σ H, z.cps[m]? = some c → Pv m σ H → g (.str ⟨#[c]⟩) σ H fun σ2 H2 => tb ⟨Pv (m + 1), rt, nx, Pv (m + 1)⟩ σ2 H2) (hd : ∀ σ H, Pv z.cps.size σ H → nx σ H) :
    ∃ x, V.str z = .str x ∧ ForW (Its x) σ H nx rt g tb := by
  refine ⟨z, rfl, forW_it walk_str Pv h0 (fun _ _ _ _ _ => True.intro) (fun m x σ H H' hi hp y => ?_) hd⟩
  obtain ⟨rfl, c, hc, rfl⟩ := y
  exact hs m c σ H' hc hp
/-! comprehensions -/
def LcW (J : It) (σ : L2.St) (H1 : Hp) (Q : VK) (g : TG) (tt : TT) (te : TE) (vs : List Nat) : Prop := ∀ D, H1 D = none → ∃ W : Nat → Nat → Hp → Prop, (∃ m, W 0 m (upd H1 D (.lst []))) ∧ ∀ i m H, W i m H →
  (J.stop i H ∧ Q (.ref D) H) ∨ (J.go i H ∧ ∃ Nx : Hp → Prop, (∀ H', Nx H' → ∃ m', m' < m ∧ W (i + 1) m' H') ∧ ∀ x H', J.yld i H x H' → g x (wipe σ vs) H' fun σ2 H2 => wipe σ2 vs = wipe σ vs ∧ tt σ2 H2 fun b H3 =>
    if b = true then te σ2 H3 fun y H4 => ∃ acc, H4 D = some (.lst acc) ∧ acc.length < sizeLine ∧ Nx (upd H4 D (.lst (acc ++ [y]))) else Nx H3)
theorem x_lcW {wi : TI} (h : wi σ H fun J H1 => LcW J σ H1 Q g tt te vs) : tLc wi g tt te vs σ H Q := h
theorem lcW_it {J : It} {n : Nat} {G : Hp → Prop} {Y : Nat → Hp → V → Hp → Prop} (w : Walk J n G Y) (Pv : Addr → Nat → Hp → Prop) (h0 : ∀ D, H D = none → Pv D 0 (upd H D (.lst []))) (hG : ∀ D i H, i ≤ n → Pv D i H → G H)
    (hs : ∀ D i x H H', i < n → Pv D i H → Y i H x H' → g x (wipe σ vs) H' fun σ2 H2 => wipe σ2 vs = wipe σ vs ∧ tt σ2 H2 fun b H3 =>
      if b = true then te σ2 H3 fun y H4 => ∃ acc, H4 D = some (.lst acc) ∧ acc.length < sizeLine ∧ Pv D (i + 1) (upd H4 D (.lst (acc ++ [y]))) else Pv D (i + 1) H3) (hd : ∀ D H, Pv D n H → Q (.ref D) H) : LcW J σ H Q g tt te vs :=
  fun D hD => lc_it w (Pv D) (h0 D hD) (hG D) (hs D) (hd D)
theorem x_lcB (hq : SqB b K H p xs) (Pv : Addr → Nat → Hp → Prop) (h0 : ∀ D, H D = none → Pv D 0 (upd H D (.lst []))) (hG : ∀ D i H, Pv D i H → SqB b K H p xs)
    (hs : ∀ D i x H, xs[i]? = some x → Pv D i H → g x (wipe σ vs) H fun σ2 H2 => wipe σ2 vs = wipe σ vs ∧ tt σ2 H2 fun b H3 =>
      if b = true then te σ2 H3 fun y H4 => ∃ acc, H4 D = some (.lst acc) ∧ acc.length < sizeLine ∧ Pv D (i + 1) (upd H4 D (.lst (acc ++ [y]))) else Pv D (i + 1) H3) (hd : ∀ D H, Pv D xs.length H → Q (.ref D) H) :
    ∃ a, V.ref p = .ref a ∧ (((∃ xs, SqL K H a xs) ∧ LcW (Itl K a) σ H Q g tt te vs) ∨ ((∃ xs, SqT K H a xs) ∧ LcW (Itt K a) σ H Q g tt te vs)) :=
  x_sqR (R := fun J H => LcW J σ H Q g tt te vs) hq (lcW_it walk_b Pv h0 (fun D i H _ h => hG D i H h) (fun D i x H H' hi hp y => by
    obtain ⟨rfl, hx⟩ := y
    exact hs D i x H' hx hp) hd)
theorem x_lcR1 {n : Nat} (hj : j = (n : Int)) (hn : n < 2 ^ 61) (Pv : Addr → Nat → Hp → Prop) (h0 : ∀ D, H D = none → Pv D 0 (upd H D (.lst [])))
    (hs : ∀ D i H, i < n → Pv D i H → g (.int (i : Nat)) (wipe σ vs) H fun σ2 H2 => wipe σ2 vs = wipe σ vs ∧ tt σ2 H2 fun b H3 =>
      if b = true then te σ2 H3 fun y H4 => ∃ acc, H4 D = some (.lst acc) ∧ acc.length < sizeLine ∧ Pv D (i + 1) (upd H4 D (.lst (acc ++ [y]))) else Pv D (i + 1) H3) (hd : ∀ D H, Pv D n H → Q (.ref D) H) :
    ∃ k : Int, [V.int j] = [.int k] ∧ -(2 ^ 62) ≤ k ∧ k < 2 ^ 62 ∧ LcW (Itr 0 k.toNat) σ H Q g tt te vs := by
  subst hj
  refine ⟨n, rfl, by omega, by omega, ?_⟩
  have e : ((n : Int)).toNat = n := Int.toNat_natCast n
  rw [e]
  refine lcW_it walk_range Pv h0 (fun _ _ _ _ _ => True.intro) (fun D i x H H' hi hp y => ?_) hd
  obtain ⟨rfl, rfl⟩ := y
  have e0 : (0 : Int) + (i : Nat) = (i : Nat) := Int.zero_add _
  show g (.int (0 + (i : Nat))) (wipe σ vs) H' _
  rw [e0]
  exact hs D i H' hi hp
theorem x_yes0 {R : Bool → Hp → Prop} (q : R true H) : tYes σ H R := q
/-- the new item of a comprehension's list -/
theorem x_lcput {D : Addr} {acc : List V} {P : Hp → Prop} (s : S F ((D, .lst acc) :: cs) H) (hl : acc.length < sizeLine) (k : ∀ H', S F ((D, .lst (acc ++ [v])) :: cs) H' → P H') :
    ∃ acc, H D = some (.lst acc) ∧ acc.length < sizeLine ∧ P (upd H D (.lst (acc ++ [v]))) := ⟨acc, s.at 0 rfl, hl, k _ (s.set 0 rfl _)⟩
/-! isinstance -/
theorem x_isi {T U : String} {r : Bool} (ht : TyX K H x (.type T)) (hk : kitB T U = some r) (q : Q (.bl r) H) : rIsi1 K [x, .ty U] H Q :=
  .inl ⟨x, _, _, _, r, rfl, .ty U, ht, kit_ty hk, q⟩
theorem tyx_l (h : SqL K H p xs) : TyX K H (.ref p) (.type "list") := by
  rcases h with (h | ⟨o, h⟩) | ⟨o, _, _, h, hc, _⟩
  · exact .base (.lst h)
  · exact .base (.frz h)
  · exact .kList h hc
theorem tyx_t (h : SqT K H p xs) : TyX K H (.ref p) (.type "tuple") := by
  rcases h with (h | ⟨o, h⟩) | ⟨o, _, _, h, hc, _⟩
  · exact .base (.tup h)
  · exact .fTuple h
  · exact .kTuple h hc
def tyName : PyData → String
  | .none => "NoneType"
  | .bool _ => "bool"
  | .int _ => "int"
  | .str _ => "str"
  | .list _ => "list"
  | .tuple _ => "tuple"
  | _ => "object"
theorem dp_ty {d : PyData} (h : Dp K H v d) : TyX K H v (.type (tyName d)) := by
  cases h with
  | non => exact .base .non
  | bl b => exact .base (.bl b)
  | int i => exact .base (.int i)
  | str z => exact .base (.str z)
  | lst h _ => exact tyx_l h
  | tup h _ => exact tyx_t h
theorem dpAll_len {vs : List V} {ds : List PyData} (h : DpAll K H vs ds) : vs.length = ds.length := by
  induction ds generalizing vs with
  | nil => cases h; rfl
  | cons d ds ih => cases h with | cons h k => simp [ih k]
theorem dpAll_get {vs : List V} {ds : List PyData} (h : DpAll K H vs ds) {n : Nat} {d : PyData} (hd : ds[n]? = some d) : ∃ v, vs[n]? = some v ∧ Dp K H v d := by
  induction ds generalizing vs n with
  | nil => simp at hd
  | cons e ds ih =>
    cases h with
    | cons h k =>
      cases n with
      | zero => exact ⟨_, rfl, by simpa using (show e = d by simpa using hd) ▸ h⟩
      | succ n =>
        obtain ⟨w, hw, q⟩ := ih k (n := n) (by simpa using hd)
        exact ⟨w, by simpa using hw, q⟩
end
end My

namespace My
open PySem PySem.Spec L2
structure DefKw (P : Program) (w : World) (K : PySem.W.Frag) (mg : Str → Option Value) (base : Heap) (x : Str) (k : Nat) (ps : List Str) (n : Nat) (ks : List Str) (gV : List V → List V → List V) (sp : Sp) : Prop where
  ex : ∃ (f : Addr) (fd : FuncData) (g : List Value → List Value → List Value), FnOk P w K mg base (L2.CX P w) k f fd ps sp ∧ mg x = some (.ref f) ∧ PySem.W.keepIn K (.ref f) = true ∧ KBn K fd ps n ks g gV
theorem pe_defK {X : Cx} {k n : Nat} {sp : Sp} {E : XK} {x : Str} {p pos : Pos} {e : Expr} {es : List Expr} {kws : List Keyword} {t tk : TA} {ps ks : List Str} {gV : List V → List V → List V} (D : DefKw X.prog X.w X.K X.mg X.base x k ps n ks gV sp) (hr : Room k X.A) (hg : Gl X x)
    (hx : Passes (L2.CX X.prog X.w) X E) (ha : PA X (e :: es) t) (hkw : PK X kws tk) (hall : (backToKw pos (keywordEach kws X.env)).all (·.1.isSome) = true := by rfl)
    (hks : (backToKw pos (keywordEach kws X.env)).filterMap (·.1) = ks := by rfl) (hdb : (x == ("__debug__" : Str)) = false := by decide) (he : starEach (e :: es) X.env = (false, eval e X.env) :: starEach es X.env := by rfl)
    (hpl : ((backTo pos (starEach (e :: es) X.env)).any (·.1) || (backToKw pos (keywordEach kws X.env)).any (·.1.isNone)) = false := by rfl) : PE X (.Call (.Name x p) (e :: es) kws pos) (tCallN n ks.length sp gV E t tk) := by
  obtain ⟨f, fd, g, F, hm, hk, hb⟩ := D.ex
  exact pe_callN F hr hg hm hk hb hx ha hkw hall hks hdb he hpl
end My

namespace My
open PySem PySem.Spec L2
section
variable {σ : L2.St} {H : Hp} {Q : VK} {K : PySem.W.Frag} {F : Hp → Prop} {cs : List (Addr × HO)} {p q : Addr} {x y v : V} {xs ys : List V} {i j : Int} {b : Bool}
variable {g : TG} {tt : TT} {te : TE} {vs : List Nat}
theorem big_sz {n : Nat} (h : n < 10000000) : n < sizeLine := Nat.lt_of_lt_of_le h (by decide)
theorem filterMap_take {α β : Type} (f : α → Option β) {l : List α} {n : Nat} {a : α} (h : l[n]? = some a) : (l.take (n + 1)).filterMap f = (l.take n).filterMap f ++ (f a).toList := by
  rw [List.take_add_one, h, List.filterMap_append]
  cases e : f a <;> simp [e]
/-- a comprehension that keeps the state: each item gives an element, or none -/
theorem x_lcFM (f : V → Option V) (s : S F cs H) (hq : ∀ B, F B → SqB b K B p xs) (hl : xs.length < 10000000)
    (hs : ∀ D acc x H (Put : VK) (Skip : Hp → Prop), x ∈ xs → (∀ y H', f x = some y → S F ((D, .lst acc) :: cs) H' → Put y H') → (∀ H', f x = none → S F ((D, .lst acc) :: cs) H' → Skip H') → S F ((D, .lst acc) :: cs) H →
      g x (wipe σ vs) H fun σ2 H2 => wipe σ2 vs = wipe σ vs ∧ tt σ2 H2 fun b H3 => if b = true then te σ2 H3 Put else Skip H3)
    (hd : ∀ D H, S F ((D, .lst (xs.filterMap f)) :: cs) H → Q (.ref D) H) :
    ∃ a, V.ref p = .ref a ∧ (((∃ xs, SqL K H a xs) ∧ LcW (Itl K a) σ H Q g tt te vs) ∨ ((∃ xs, SqT K H a xs) ∧ LcW (Itt K a) σ H Q g tt te vs)) := by
  refine x_lcB (hq _ s.fact) (fun D i H => i ≤ xs.length ∧ S F ((D, .lst ((xs.take i).filterMap f)) :: cs) H) (fun D hD => ⟨Nat.zero_le _, s.alloc hD⟩) (fun D i H h => hq _ h.2.fact) ?_ ?_
  · rintro D i x H hx ⟨hi, s⟩
    have hlt : i < xs.length := (List.getElem?_eq_some_iff.mp hx).1
    have hlen : ((xs.take i).filterMap f).length < sizeLine := big_sz (Nat.lt_of_le_of_lt (Nat.le_trans (List.length_filterMap_le _ _) (by rw [List.length_take]; omega)) hl)
    refine hs D _ x H _ _ (mem_of_get hx) ?_ ?_ s
    · intro y H4 h1 h2
      refine ⟨_, h2.at 0 rfl, hlen, hlt, ?_⟩
      rw [filterMap_take f hx, h1]
      exact h2.set 0 rfl _
    · intro H3 h1 h2
      refine ⟨hlt, ?_⟩
      rw [filterMap_take f hx, h1]
      simpa using h2
  · rintro D H ⟨_, s⟩
    rw [List.take_length] at s
    exact hd D H s
/-- by the place -/
theorem x_lcFI (f : Nat → Option V) (s : S F cs H) (hq : ∀ B, F B → SqB b K B p xs) {n : Nat} (hn : xs.length = n) (hl : n < 10000000)
    (hs : ∀ D acc i x H (Put : VK) (Skip : Hp → Prop), xs[i]? = some x → (∀ y H', f i = some y → S F ((D, .lst acc) :: cs) H' → Put y H') → (∀ H', f i = none → S F ((D, .lst acc) :: cs) H' → Skip H') → S F ((D, .lst acc) :: cs) H →
      g x (wipe σ vs) H fun σ2 H2 => wipe σ2 vs = wipe σ vs ∧ tt σ2 H2 fun b H3 => if b = true then te σ2 H3 Put else Skip H3)
    (hd : ∀ D H, S F ((D, .lst ((List.range n).filterMap f)) :: cs) H → Q (.ref D) H) :
    ∃ a, V.ref p = .ref a ∧ (((∃ xs, SqL K H a xs) ∧ LcW (Itl K a) σ H Q g tt te vs) ∨ ((∃ xs, SqT K H a xs) ∧ LcW (Itt K a) σ H Q g tt te vs)) := by
  subst hn
  refine x_lcB (hq _ s.fact) (fun D i H => i ≤ xs.length ∧ S F ((D, .lst ((List.range i).filterMap f)) :: cs) H) (fun D hD => ⟨Nat.zero_le _, s.alloc hD⟩) (fun D i H h => hq _ h.2.fact) ?_ (fun D H h => hd D H h.2)
  rintro D i x H hx ⟨hi, s⟩
  have hlt : i < xs.length := (List.getElem?_eq_some_iff.mp hx).1
  have hlen : ((List.range i).filterMap f).length < sizeLine := big_sz (Nat.lt_of_le_of_lt (Nat.le_trans (List.length_filterMap_le _ _) (by rw [List.length_range]; omega)) hl)
  refine hs D _ i x H _ _ hx ?_ ?_ s
  · intro y H4 h1 h2
    refine ⟨_, h2.at 0 rfl, hlen, hlt, ?_⟩
    rw [List.range_succ, List.filterMap_append]
    simp only [List.filterMap_cons, h1, List.filterMap_nil]
    exact h2.set 0 rfl _
  · intro H3 h1 h2
    refine ⟨hlt, ?_⟩
    rw [List.range_succ, List.filterMap_append]
    simp only [List.filterMap_cons, h1, List.filterMap_nil, List.append_nil]
    exact h2
/-- the same over range(n) -/
theorem x_lcFR (f : Nat → Option V) {n : Nat} (hj : j = (n : Int)) (hn : n < 10000000) (s : S F cs H)
    (hs : ∀ D acc i H (Put : VK) (Skip : Hp → Prop), i < n → (∀ y H', f i = some y → S F ((D, .lst acc) :: cs) H' → Put y H') → (∀ H', f i = none → S F ((D, .lst acc) :: cs) H' → Skip H') → S F ((D, .lst acc) :: cs) H →
      g (.int (i : Nat)) (wipe σ vs) H fun σ2 H2 => wipe σ2 vs = wipe σ vs ∧ tt σ2 H2 fun b H3 => if b = true then te σ2 H3 Put else Skip H3)
    (hd : ∀ D H, S F ((D, .lst ((List.range n).filterMap f)) :: cs) H → Q (.ref D) H) :
    ∃ k : Int, [V.int j] = [.int k] ∧ -(2 ^ 62) ≤ k ∧ k < 2 ^ 62 ∧ LcW (Itr 0 k.toNat) σ H Q g tt te vs := by
  refine x_lcR1 hj (Nat.lt_of_lt_of_le hn (by decide)) (fun D i H => S F ((D, .lst ((List.range i).filterMap f)) :: cs) H) (fun D hD => s.alloc hD) ?_ (fun D H s => hd D H s)
  intro D i H hi s
  have hlen : ((List.range i).filterMap f).length < sizeLine := big_sz (Nat.lt_of_le_of_lt (Nat.le_trans (List.length_filterMap_le _ _) (by rw [List.length_range]; omega)) hn)
  refine hs D _ i H _ _ hi ?_ ?_ s
  · intro y H4 h1 h2
    refine ⟨_, h2.at 0 rfl, hlen, ?_⟩
    rw [List.range_succ, List.filterMap_append]
    simp only [List.filterMap_cons, h1, List.filterMap_nil]
    exact h2.set 0 rfl _
  · intro H3 h1 h2
    rw [List.range_succ, List.filterMap_append]
    simp only [List.filterMap_cons, h1, List.filterMap_nil, List.append_nil]
    exact h2
end
/-! ### what stands in the written part, by a look -/
mutual
def kd (K : PySem.W.Frag) : PyData → Value → Bool
  | .none, .none => true
  | .bool a, .bool b => a == b
  | .int i, .int j _ => decide (i = j)
  | .str x, .str y _ => decide (x = y)
  | .tuple ds, .ref a => match K.lookup a with
    | some ⟨.type "tuple", _, .seq its _, _⟩ => decide (its.size ≤ 1000) && kdAll K ds its.toList
    | _ => false
  | _, _ => false
def kdAll (K : PySem.W.Frag) : List PyData → List Value → Bool
  | [], [] => true
  | d :: ds, u :: us => kd K d u && kdAll K ds us
  | _, _ => false
end
mutual
theorem kd_ok {K : PySem.W.Frag} : ∀ (d : PyData) (u : Value), kd K d u = true → ∃ v, RelV v u ∧ ∀ H, Dp K H v d
  | .none, .none, _ => ⟨.non, rfl, fun _ => .non⟩
  | .bool a, .bool b, h => ⟨.bl b, rfl, by
    have e : a = b := by simpa [kd] using h
    subst e
    exact fun _ => .bl a⟩
  | .int i, .int j t, h => ⟨.int i, by
    have e : i = j := by simpa [kd] using h
    subst e
    exact ⟨t, rfl⟩, fun _ => .int i⟩
  | .str x, .str y t, h => ⟨.str x, by
    have e : x = y := by simpa [kd] using h
    subst e
    exact ⟨t, rfl⟩, fun _ => .str x⟩
  | .tuple ds, .ref a, h => by
    unfold kd at h
    split at h
    · rename_i dd its n sl hk
      obtain ⟨h1, h2⟩ := Bool.and_eq_true_iff.mp h
      obtain ⟨vs, rv, dv⟩ := kdAll_ok ds its.toList h2
      exact ⟨.ref a, rfl, fun H => .tup (.inr ⟨_, its, n, hk, rfl, rfl, Nat.le_trans (of_decide_eq_true h1) (by decide), rv⟩) (dv H)⟩
    · cases h
  | .none, .bool _, h | .none, .int _ _, h | .none, .str _ _, h | .none, .ref _, h => by simp [kd] at h
theorem kdAll_ok {K : PySem.W.Frag} : ∀ (ds : List PyData) (us : List Value), kdAll K ds us = true → ∃ vs, Vals vs us ∧ ∀ H, DpAll K H vs ds
  | [], [], _ => ⟨[], .nil, fun _ => .nil⟩
  | d :: ds, u :: us, h => by
    unfold kdAll at h
    obtain ⟨h1, h2⟩ := Bool.and_eq_true_iff.mp h
    obtain ⟨v, r, q⟩ := kd_ok d u h1
    obtain ⟨vs, rs, qs⟩ := kdAll_ok ds us h2
    exact ⟨v :: vs, .cons r rs, fun H => .cons (q H) (qs H)⟩
  | [], _ :: _, h => by simp [kdAll] at h
  | _ :: _, [], h => by simp [kdAll] at h
end
theorem kd_tup {K : PySem.W.Frag} {ds : List PyData} {a : Addr} (h : kd K (.tuple ds) (.ref a) = true) : ∃ xs, ∀ H, SqT K H a xs ∧ DpAll K H xs ds := by
  unfold kd at h
  split at h
  · rename_i dd its n sl hk
    obtain ⟨h1, h2⟩ := Bool.and_eq_true_iff.mp h
    obtain ⟨vs, rv, dv⟩ := kdAll_ok ds its.toList h2
    exact ⟨vs, fun H => ⟨.inr ⟨_, its, n, hk, rfl, rfl, Nat.le_trans (of_decide_eq_true h1) (by decide), rv⟩, dv H⟩⟩
  · cases h
instance {H0 : Hp} : Mono (fun B => Same H0 B) := ⟨fun _ _ e h => h.trans e⟩
/-- facts of the written part hold anywhere -/
theorem S.addK {F G : Hp → Prop} {cs : List (Addr × HO)} {H : Hp} (s : S F cs H) (h : ∀ H, G H) (m : Mono G := by infer_instance) : S (fun B => G B ∧ F B) cs H := by
  have := s.mono
  exact s.imp fun B f => ⟨h B, f⟩
theorem start_s (H : Hp) : S (fun B => Same H B) [] H := S.of (Same.refl H)
/-- two ints in a tuple -/
theorem dp_pair {K : PySem.W.Frag} {H : Hp} {v : V} {i j : Int} (h : Dp K H v (.tuple [.int i, .int j])) : ∃ a, v = .ref a ∧ SqT K H a [.int i, .int j] := by
  cases h with | tup h k => ?_
  cases k with | cons h1 k => ?_
  cases k with | cons h2 k => ?_
  cases k
  cases h1
  cases h2
  exact ⟨_, rfl, h⟩
theorem x_band {i j : Int} {H : Hp} {Q : VK} (q : Q (.int (Builtin.bitAnd i j)) H) : rBitAnd1 (.int i) (.int j) H Q := ⟨i, j, rfl, rfl, q⟩
theorem x_bor {i j : Int} {H : Hp} {Q : VK} (q : Q (.int (Builtin.bitOr i j)) H) : rBitOr1 (.int i) (.int j) H Q := ⟨i, j, rfl, rfl, q⟩
theorem x_bxor {i j : Int} {H : Hp} {Q : VK} (q : Q (.int (Builtin.bitXor i j)) H) : rBitXor1 (.int i) (.int j) H Q := ⟨i, j, rfl, rfl, q⟩
theorem x_shr {i j : Int} {H : Hp} {Q : VK} (h : 0 ≤ j) (q : Q (.int (i / 2 ^ j.toNat)) H) : rShr1 (.int i) (.int j) H Q := ⟨i, j, rfl, rfl, h, q⟩
theorem x_shl {i j : Int} {H : Hp} {Q : VK} (h : CShl i j) (q : Q (.int (i * 2 ^ j.toNat)) H) : rShl1 (.int i) (.int j) H Q := ⟨i, j, rfl, rfl, h, q⟩
theorem x_gtup {K : PySem.W.Frag} {H : Hp} {σ : L2.St} {n : Nat} {t : TGs} {a : Addr} {xs : List V} {R : L2.St → Hp → Prop} (h : SqT K H a xs) (hl : xs.length = n) (q : t xs σ H R) : gTup K n t (.ref a) σ H R := ⟨a, xs, rfl, h, hl, q⟩
theorem x_gcons {t : TG} {u : TGs} {v : V} {r : List V} {σ : L2.St} {H : Hp} {R : L2.St → Hp → Prop} (h : t v σ H fun σ' H' => u r σ' H' R) : gCons t u (v :: r) σ H R := ⟨v, r, rfl, h⟩
theorem x_gnil {σ : L2.St} {H : Hp} {R : L2.St → Hp → Prop} (h : R σ H) : gNil [] σ H R := ⟨rfl, h⟩
theorem x_m1 {r : V → List V → Hp → VK → Prop} {to te : TE} {σ : L2.St} {H : Hp} {Q : VK} (h : to σ H fun x H1 => (∃ a, x = .str a) ∧ te σ H1 fun y H2 => r x [y] H2 Q) : tM1 r to te σ H Q := h
theorem x_isS {z : Str} {A : Prop} (q : A) : (∃ a, V.str z = .str a) ∧ A := ⟨⟨z, rfl⟩, q⟩
theorem x_callN {n m : Nat} {sp : Sp} {gV : List V → List V → List V} {E : XK} {t tk : TA} {σ : L2.St} {H : Hp} {Q : VK} (h : t σ H fun vs H1 => tk σ H1 fun zs H2 => vs.length = n ∧ zs.length = m ∧ sp (gV vs zs) H2 Q E) : tCallN n m sp gV E t tk σ H Q := h
end My

namespace My
open PySem L2
theorem vals_drop : ∀ {vs : List V} {us : List Value} (i : Nat), Vals vs us → Vals (vs.drop i) (us.drop i)
  | _, _, 0, h => h
  | _, _, i + 1, .nil => .nil
  | _, _, i + 1, .cons _ t => vals_drop i t
theorem vals_take : ∀ {vs : List V} {us : List Value} (i : Nat), Vals vs us → Vals (vs.take i) (us.take i)
  | _, _, 0, _ => .nil
  | _, _, i + 1, .nil => .nil
  | _, _, i + 1, .cons r t => .cons r (vals_take i t)
theorem vals_pick {vs : List V} {us : List Value} (i : Nat) (h : Vals vs us) : Vals ((vs.drop i).take 1) ((us.drop i).take 1) := vals_take 1 (vals_drop i h)
end My

namespace My
open PySem PySem.Spec L2
/-- the end of a law whose defs may raise, the written part found by a Hook -/
theorem walk_mine {l : PySem.W.OpenLaw} {n k : Nat} {q : Program} {loose : List Str} {XP : (Str → Option Value) → Heap → Prop} {YP : World → Heap → Prop} {d : DefRec} {x : Str}
    (hn : l.most = some n) (hs : n ≤ sizeLine) (hdf : d.params.defaults = []) (room : Room k callerA)
    (got : ∀ (w : World) (mg : Str → Option Value) (fa : Addr) (h : Heap), YP w h → h.Ns mainGlobals mg → mg d.name = some (.ref fa) →
      ∃ (K : PySem.W.Frag) (fd : FuncData) (sp : Sp), K.In h ∧ (∀ (s : Shared) (u : Value), BindsTo s fd ⟨[u], []⟩ [(x, u)]) ∧
        (∀ (H : Hp) (a : Addr) (ns : List Int), ns.length ≤ n → SqL K H a (ns.map V.int) → sp [.ref a] H (fun v _ => v = .bl true) fun _ _ _ => False) ∧
        ∀ base : Heap, K.In base → base.Ns mainGlobals mg → FnOk l.prog w K mg base (L2.CX l.prog w) k fa fd [x] sp) :
    PySem.W.WalkO q loose XP YP l.row.toRowW d [] (fun f vs => PySem.call f vs) := by
  refine Att.attach_call hn hdf ?_
  intro w s₀ s₁ mg mb fa o pm cd doc a vs ns G Y ho hd hcd hmg hobj hints hlen hg
  obtain ⟨K, fd, sp, inn, binds, asked, ok⟩ := got w mg fa _ Y G.T.g hmg
  refine law_call inn G.T.g G.T.b G.T.builtins G.T.nolimit hg hobj hints (Nat.le_trans hlen hs) room ok binds ?_ ?_
  · intro H _ hS
    exact asked H a ns hlen hS
  · intro H e s' c
    obtain ⟨_, _, _, _, _, _, _, _, _, _, _, _, z⟩ := c
    exact z
end My

namespace My
open PySem PySem.Spec L2
def opV : Option Int → V
  | none => .non
  | some i => .int i
def LET : List Nat := ("abcdefghijklmnopqrstuvwxyz" : Str).cps.toList
def DIG : List Nat := ("0123456789" : Str).cps.toList
theorem dig_iff (c : Nat) : c ∈ DIG ↔ 48 ≤ c ∧ c ≤ 57 := by
  have e : DIG = [48, 49, 50, 51, 52, 53, 54, 55, 56, 57] := by decide +kernel
  rw [e]
  simp only [List.mem_cons, List.not_mem_nil, or_false]
  omega
theorem str1_eq {c d : Nat} : (V.str ⟨#[c]⟩ = V.str ⟨#[d]⟩) = (c = d) := by simp
theorem str_head {z : Str} {c : Nat} (h : atI z.cps.toList 0 = some c) : z.cps.toList.head? = some c := by
  have : z.cps.toList[0]? = some c := by
    unfold atI at h
    cases e : ixN z.cps.toList.length 0 with
    | none => rw [e] at h; cases h
    | some j =>
      rw [e] at h
      unfold ixN at e
      rw [if_pos (by decide)] at e
      split at e
      · cases e; exact h
      · cases e
  rw [List.head?_eq_getElem?]
  exact this
theorem at_zero {z : Str} {c : Nat} (h : z.cps.toList.head? = some c) : atI z.cps.toList 0 = some c := by
  rw [List.head?_eq_getElem?] at h
  exact atI_nat (j := 0) h
theorem cps_get {z : Str} {m c : Nat} (h : z.cps[m]? = some c) : z.cps.toList[m]? = some c := by
  rw [Array.getElem?_toList]; exact h
theorem x_inS {c : Nat} {z : Str} {K : PySem.W.Frag} {H : Hp} {Q : VK} (q : Q (.bl (decide (c ∈ z.cps.toList))) H) : rIn1 K (.str ⟨#[c]⟩) (.str z) H Q := .inl ⟨c, z, rfl, rfl, q⟩
theorem x_ninS {c : Nat} {z : Str} {K : PySem.W.Frag} {H : Hp} {Q : VK} (q : Q (.bl (!decide (c ∈ z.cps.toList))) H) : rNotIn1 K (.str ⟨#[c]⟩) (.str z) H Q := .inl ⟨c, z, rfl, rfl, q⟩
theorem str_len {z : Str} : z.length = z.cps.toList.length := by simp [Str.length]
end My

namespace My
open PySem PySem.Spec L2
theorem str_is {c d : Nat} {s : Str} (e : s = ⟨#[d]⟩) : (V.str ⟨#[c]⟩ = V.str s) ↔ c = d := by subst e; simp
theorem sz5 {n : Nat} (h : n ≤ 1000000) : n ≤ sizeLine := Nat.le_trans h (by decide)
theorem x_split {z b : Str} {F : Hp → Prop} {cs : List (Addr × HO)} {H : Hp} {Q : VK} (s : S F cs H) (hb : (b.length == 0) = false) (hz : z.length ≤ 100000) (k : ∀ p H', S F ((p, .lst ((Txt.split z b).map V.str)) :: cs) H' → Q (.ref p) H') : rSplit1 (.str z) [.str b] H Q :=
  ⟨z, b, rfl, rfl, hb, sz5 (by omega), fun p hp => k p _ (s.alloc hp)⟩
theorem S.fresh {F : Hp → Prop} {cs : List (Addr × HO)} {H H0 : Hp} {c : Addr × HO} (s : S F cs H) (h : c ∈ cs) (e : ∀ B, F B → Same H0 B) : H0 c.1 = none := by
  obtain ⟨B, _, f, fr⟩ := s.ex
  exact (e B f).free (fr c h)
theorem S.freezeL {F : Hp → Prop} {cs : List (Addr × HO)} {H : Hp} {p : Addr} {xs : List V} {K : PySem.W.Frag} (s : S F ((p, .lst xs) :: cs) H) : S (fun B => SqB true K B p xs ∧ F B) cs H := by
  have := s.mono
  exact s.freeze fun B f e => ⟨sq_l e, f⟩
theorem S.freezeT {F : Hp → Prop} {cs : List (Addr × HO)} {H : Hp} {p : Addr} {xs : List V} {K : PySem.W.Frag} (s : S F ((p, .tup xs) :: cs) H) : S (fun B => SqB false K B p xs ∧ F B) cs H := by
  have := s.mono
  exact s.freeze fun B f e => ⟨sq_t e, f⟩
end My

namespace My
open PySem PySem.Spec L2
theorem x_orJ {A B : Bool} {H : Hp} {Q : VK} {σ : L2.St} {tb : TE} (hb : ∀ R : VK, R (.bl B) H → tb σ H R) (q : Q (.bl (A || B)) H) : if A = true then Q (.bl true) H else tb σ H Q := by
  cases A
  · exact iteF (hb _ q)
  · exact iteT q
theorem x_andJ {A B : Bool} {H : Hp} {Q : VK} {σ : L2.St} {tb : TE} (hb : ∀ R : VK, R (.bl B) H → tb σ H R) (q : Q (.bl (A && B)) H) : if A = true then tb σ H Q else Q (.bl false) H := by
  cases A
  · exact iteF q
  · exact iteT (hb _ q)
end My

namespace My
open PySem PySem.Spec L2
section
variable {σ : L2.St} {H : Hp} {Q : VK} {K : PySem.W.Frag} {F : Hp → Prop} {cs : List (Addr × HO)} {p q : Addr} {xs ys : List V}
theorem mulok {z : Str} {n : Int} (hz : z.length ≤ 1000) (h0 : 0 ≤ n) (h1 : n ≤ 1000) : MulOk z n := by
  refine ⟨?_, fun h2 _ => ?_, fun h2 _ => ?_⟩
  · rw [Bool.or_eq_false_iff]
    exact ⟨decide_eq_false (by omega), decide_eq_false (by omega)⟩
  · have : (1000 : Int) ≤ (2 ^ 63 - 1) / n := by
      refine Int.le_ediv_of_mul_le (by omega) ?_
      omega
    omega
  · have h3 : z.length * n.toNat ≤ 1000 * 1000 := Nat.mul_le_mul hz (by omega)
    unfold PySem.Builtin.Str.tooLong
    rw [decide_eq_false]
    have : 1000 * 1000 ≤ sizeLine := by decide
    omega
theorem x_mulS {z : Str} {n : Int} (h : MulOk z n) (q : Q (.str (Txt.mul z n)) H) : rMul1 K (.str z) (.int n) H Q := .inr (.inr (.inr ⟨z, n, rfl, rfl, h, q⟩))
theorem x_sl {r : V → Option Int → Option Int → Hp → VK → Prop} {te : TE} {tl th : TO} (h : te σ H fun x H1 => tl σ H1 fun l H2 => th σ H2 fun u H3 => r x l u H3 Q) : tSl r te tl th σ H Q := h
theorem x_np {R : Option Int → Hp → Prop} (q : R none H) : tNoPart σ H R := q
theorem x_pt {te : TE} {R : Option Int → Hp → Prop} (h : te σ H fun x H1 => ∃ i, x = .int i ∧ R (some i) H1) : tPart te σ H R := h
theorem x_exi {i : Int} {R : Int → Prop} (q : R i) : ∃ k, V.int i = .int k ∧ R k := ⟨i, rfl, q⟩
theorem x_slL {lo hi : Option Int} (h : SqL K H p xs) (s : S F cs H) (k : ∀ r H', S F ((r, .lst (cutV xs lo hi)) :: cs) H' → Q (.ref r) H') : rSlL K (.ref p) lo hi H Q := ⟨p, xs, rfl, h, fun r hr => k r _ (s.alloc hr)⟩
theorem x_listof (h : SqL K H p xs ∨ SqT K H p xs) (s : S F cs H) (k : ∀ r H', S F ((r, .lst xs) :: cs) H' → Q (.ref r) H') : rList1 K [.ref p] H Q := ⟨p, xs, rfl, h, fun r hr => k r _ (s.alloc hr)⟩
theorem x_tupof (h : SqL K H p xs) (s : S F cs H) (k : ∀ r H', S F ((r, .tup xs) :: cs) H' → Q (.ref r) H') : rTuple1 K [.ref p] H Q := ⟨p, xs, rfl, .inl ⟨h, fun r hr => k r _ (s.alloc hr)⟩⟩
theorem x_tupofT (h : SqT K H p xs) (q : Q (.ref p) H) : rTuple1 K [.ref p] H Q := ⟨p, xs, rfl, .inr ⟨h, q⟩⟩
theorem mem_cutV {v : V} {lo hi : Option Int} (h : v ∈ cutV xs lo hi) : v ∈ xs := List.mem_of_mem_drop (List.mem_of_mem_take h)
theorem forR_all {α : Type} {P : α → Prop} {l : List α} {i : Nat} {x : α} (h : ∀ v ∈ l, P v) (e : l[i]? = some x) : P x := h x (mem_of_get e)
end
end My
namespace My
open PySem PySem.Spec L2
theorem x_cut {t u : TS} {nx bk ct : L2.St → Hp → Prop} {rt : VK} {σ : L2.St} {H : Hp} (Mid : L2.St → Hp → Prop) (h1 : t ⟨Mid, rt, bk, ct⟩ σ H) (h2 : ∀ σ' H', Mid σ' H' → u ⟨nx, rt, bk, ct⟩ σ' H') : C8.tCut t u ⟨nx, rt, bk, ct⟩ σ H := ⟨Mid, h1, h2⟩
end My

namespace My
open PySem PySem.Spec L2
local macro_rules | `(tactic| walk_at "m") => `(tactic| first | exact List.Mem.head _ | (refine List.Mem.tail _ ?_; first | exact List.Mem.head _ | (refine List.Mem.tail _ ?_; first | exact List.Mem.head _ | (refine List.Mem.tail _ ?_; first | exact List.Mem.head _ | (refine List.Mem.tail _ ?_; first | exact List.Mem.head _ | (refine List.Mem.tail _ ?_; first | exact List.Mem.head _ | (refine List.Mem.tail _ ?_; first | exact List.Mem.head _ | (refine List.Mem.tail _ ?_; exact List.Mem.head _))))))))
local macro_rules | `(tactic| walk_at "sx1") => `(tactic| first
  | with_reducible refine x_seq ?_
  | with_reducible refine x_asg ?_
  | ((with_reducible refine x_gname ?_); (try dsimp only [List.set_cons_succ, List.set_cons_zero]))
  | with_reducible refine x_next ?_
  | with_reducible refine x_ret ?_
  | with_reducible refine x_drop ?_
  | with_reducible refine x_ifs ?_
  | ((with_reducible refine x_var (v := ?v) ?hv ?_); (case hv => exact rfl))
  | with_reducible refine x_c ?_
  | with_reducible refine x_op ?_
  | with_reducible refine x_un ?_
  | with_reducible refine x_test ?_
  | with_reducible refine x_bl ?_
  | with_reducible refine x_tr ?_
  | with_reducible refine x_trB ?_
  | with_reducible refine x_and ?_
  | with_reducible refine x_or ?_
  | with_reducible refine x_not ?_
  | with_reducible refine x_ifE ?_
  | with_reducible refine x_chain ?_
  | with_reducible refine x_andV ?_
  | with_reducible refine x_orV ?_
  | with_reducible refine x_notV ?_
  | with_reducible refine x_cons ?_
  | with_reducible refine x_nil ?_
  | with_reducible refine x_tup ?_
  | with_reducible refine x_lst ?_
  | with_reducible refine x_call ?_
  | with_reducible refine x_cb ?_
  | with_reducible refine x_bm ?_
  | with_reducible refine x_gsub ?_
  | with_reducible refine x_sl ?_
  | with_reducible refine x_np ?_
  | with_reducible refine x_pt ?_
  | with_reducible refine x_exi ?_
  | with_reducible refine x_gcons ?_
  | with_reducible refine x_gnil ?_
  | with_reducible refine x_m1 ?_
  | with_reducible refine x_isS ?_
  | with_reducible refine x_callN ?_
  | with_reducible refine x_forW ?_
  | with_reducible refine x_lcW ?_
  | with_reducible refine x_iSq ?_
  | with_reducible refine x_iR1 ?_
  | with_reducible refine x_iR2 ?_
  | with_reducible refine x_iStr ?_
  | with_reducible refine x_yes0 ?_
  | with_reducible refine x_retN ?_
  | with_reducible refine x_cont ?_
  | with_reducible refine x_brk ?_
  | with_reducible refine x_addI ?_
  | with_reducible refine x_I0 ?_
  | with_reducible refine x_neg ?_
  | with_reducible refine x_inS ?_
  | with_reducible refine x_ninS ?_
  | with_reducible refine x_band ?_
  | with_reducible refine x_bor ?_
  | with_reducible refine x_bxor ?_
  | with_reducible refine x_eqI ?_
  | with_reducible refine x_neI ?_
  | with_reducible refine x_int ?_
  | with_reducible refine x_abs ?_
  | with_reducible refine x_isN ?_
  | with_reducible refine x_isB ?_
  | with_reducible refine x_notN ?_
  | with_reducible refine iteF ?_
  | with_reducible refine x_ntF ?_
  | with_reducible refine x_ntT ?_
  | with_reducible refine iteT ?_
  | ((with_reducible refine x_pow ?hc ?_); (case hc => exact ⟨by decide, by decide, by decide⟩))
  | ((with_reducible refine x_div (cdiv ?hc ?hd) ?_); (case hc => first | decide | omega); (case hd => first | decide | omega))
  | ((with_reducible refine x_mulI (cmul_l ?hc) ?_); (case hc => first | decide | omega))
  | ((with_reducible refine x_mulI (cmul_r ?hc) ?_); (case hc => first | decide | omega))
  | ((with_reducible refine x_mod ?hc ?_); (case hc => first | decide | omega))
  | ((with_reducible refine x_ixC (xs := ?xs) (v := ?v) (by assumption) ?hm ?he ?_); (case hm => walk_at "m"); (case he => exact rfl))
  | ((with_reducible refine x_lenC (xs := ?xs) (by assumption) ?hm ?_); (case hm => walk_at "m"))
  | ((with_reducible refine x_tyC (xs := ?xs) (by assumption) ?hm ?_); (case hm => walk_at "m")))
local macro_rules | `(tactic| walk_at "sx") => `(tactic| repeat walk_at "sx1")
local macro_rules | `(tactic| walk_at "wipe") => `(tactic| (dsimp only [wipe, List.set_cons_succ, List.set_cons_zero]))
local macro_rules | `(tactic| walk_at "gn") => `(tactic| (with_reducible refine x_gname ?_; dsimp only [List.set_cons_succ, List.set_cons_zero]))

def top (i : Nat) : Stmt := PySem.Challenge.pw_gatesofcloth_k02_words_and_tables.main.body.getD i (.Pass ⟨0, 0, 0, 0⟩)
abbrev s_words_of : Stmt := top 5
def dd_words_of : He.DefD := ⟨("words_of", none), "words_of", "words_of", defArgs s_words_of, defBody s_words_of, defScope s_words_of, [], []⟩
abbrev s_number_of : Stmt := top 6
def dd_number_of : He.DefD := ⟨("number_of", none), "number_of", "number_of", defArgs s_number_of, defBody s_number_of, defScope s_number_of, [], []⟩
abbrev s_is_name : Stmt := top 7
def dd_is_name : He.DefD := ⟨("is_name", none), "is_name", "is_name", defArgs s_is_name, defBody s_is_name, defScope s_is_name, [], []⟩
abbrev s_from_bits : Stmt := top 9
def dd_from_bits : He.DefD := ⟨("from_bits", none), "from_bits", "from_bits", defArgs s_from_bits, defBody s_from_bits, defScope s_from_bits, [], []⟩
abbrev s_lookup : Stmt := top 12
def dd_lookup : He.DefD := ⟨("lookup", none), "lookup", "lookup", defArgs s_lookup, defBody s_lookup, defScope s_lookup, [], []⟩
abbrev s_swapped : Stmt := top 13
def dd_swapped : He.DefD := ⟨("swapped", none), "swapped", "swapped", defArgs s_swapped, defBody s_swapped, defScope s_swapped, [], []⟩
abbrev s_inverted : Stmt := top 14
def dd_inverted : He.DefD := ⟨("inverted", none), "inverted", "inverted", defArgs s_inverted, defBody s_inverted, defScope s_inverted, [], []⟩
abbrev s_fixed : Stmt := top 15
def dd_fixed : He.DefD := ⟨("fixed", none), "fixed", "fixed", defArgs s_fixed, defBody s_fixed, defScope s_fixed, [], [("first", .non), ("second", .non)]⟩
abbrev s_depends : Stmt := top 16
def dd_depends : He.DefD := ⟨("depends", none), "depends", "depends", defArgs s_depends, defBody s_depends, defScope s_depends, [], []⟩
abbrev s_law_pool : Stmt := top 18
def dd_law_pool : He.DefD := ⟨("_law_pool", none), "_law_pool", "_law_pool", defArgs s_law_pool, defBody s_law_pool, defScope s_law_pool, [], []⟩
abbrev s_law_draw : Stmt := top 19
def dd_law_draw : He.DefD := ⟨("_law_draw", none), "_law_draw", "_law_draw", defArgs s_law_draw, defBody s_law_draw, defScope s_law_draw, [], []⟩
abbrev s_law_same : Stmt := top 20
def dd_law_same : He.DefD := ⟨("_law_same", none), "_law_same", "_law_same", defArgs s_law_same, defBody s_law_same, defScope s_law_same, [], []⟩
abbrev s_law_is_name : Stmt := top 21
def dd_law_is_name : He.DefD := ⟨("_law_is_name", none), "_law_is_name", "_law_is_name", defArgs s_law_is_name, defBody s_law_is_name, defScope s_law_is_name, [], []⟩
abbrev s_law_signs : Stmt := top 22
def dd_law_signs : He.DefD := ⟨("_law_signs", none), "_law_signs", "_law_signs", defArgs s_law_signs, defBody s_law_signs, defScope s_law_signs, [], []⟩
abbrev s_law_typed_line : Stmt := top 23
def dd_law_typed_line : He.DefD := ⟨("_law_typed_line", none), "_law_typed_line", "_law_typed_line", defArgs s_law_typed_line, defBody s_law_typed_line, defScope s_law_typed_line, [], []⟩
abbrev s_law_typed_word : Stmt := top 24
def dd_law_typed_word : He.DefD := ⟨("_law_typed_word", none), "_law_typed_word", "_law_typed_word", defArgs s_law_typed_word, defBody s_law_typed_word, defScope s_law_typed_word, [], []⟩
abbrev s_law_cut_at_spaces : Stmt := top 25
def dd_law_cut_at_spaces : He.DefD := ⟨("_law_cut_at_spaces", none), "_law_cut_at_spaces", "_law_cut_at_spaces", defArgs s_law_cut_at_spaces, defBody s_law_cut_at_spaces, defScope s_law_cut_at_spaces, [], []⟩
abbrev s_law_number_due : Stmt := top 26
def dd_law_number_due : He.DefD := ⟨("_law_number_due", none), "_law_number_due", "_law_number_due", defArgs s_law_number_due, defBody s_law_number_due, defScope s_law_number_due, [], []⟩
abbrev s_law_first_part : Stmt := top 27
def dd_law_first_part : He.DefD := ⟨("_law_first_part", none), "_law_first_part", "_law_first_part", defArgs s_law_first_part, defBody s_law_first_part, defScope s_law_first_part, [], []⟩
abbrev s_law_bits : Stmt := top 28
def dd_law_bits : He.DefD := ⟨("_law_bits", none), "_law_bits", "_law_bits", defArgs s_law_bits, defBody s_law_bits, defScope s_law_bits, [], []⟩
abbrev s_law_number : Stmt := top 29
def dd_law_number : He.DefD := ⟨("_law_number", none), "_law_number", "_law_number", defArgs s_law_number, defBody s_law_number, defScope s_law_number, [], []⟩
abbrev s_law_fixed_right : Stmt := top 30
def dd_law_fixed_right : He.DefD := ⟨("_law_fixed_right", none), "_law_fixed_right", "_law_fixed_right", defArgs s_law_fixed_right, defBody s_law_fixed_right, defScope s_law_fixed_right, [], []⟩
abbrev s_law_right : Stmt := top 31
def dd_law_right : He.DefD := ⟨("_law_right", none), "_law_right", "_law_right", defArgs s_law_right, defBody s_law_right, defScope s_law_right, [], []⟩
abbrev s_law_second_part : Stmt := top 32
def dd_law_second_part : He.DefD := ⟨("_law_second_part", none), "_law_second_part", "_law_second_part", defArgs s_law_second_part, defBody s_law_second_part, defScope s_law_second_part, [], []⟩
abbrev s_law : Stmt := top 33
def dd_law : He.DefD := ⟨("law", none), "law", "law", defArgs s_law, defBody s_law, defScope s_law, [], []⟩
def fn : List He.DefD := ([dd_words_of, dd_number_of, dd_is_name, dd_from_bits, dd_lookup, dd_swapped, dd_inverted, dd_fixed] : List He.DefD) ++ ([dd_depends, dd_law_pool, dd_law_draw, dd_law_same, dd_law_is_name, dd_law_signs, dd_law_typed_line, dd_law_typed_word] : List He.DefD) ++ ([dd_law_cut_at_spaces, dd_law_number_due, dd_law_first_part, dd_law_bits, dd_law_number, dd_law_fixed_right, dd_law_right, dd_law_second_part] : List He.DefD) ++ ([dd_law] : List He.DefD)
def fa : List He.Fa := ([.glo "law", .free "int", .free "len", .str "DIGITS" "0123456789", .int "MOST_DIGITS" 5, .str "LETTERS" "abcdefghijklmnopqrstuvwxyz", .int "LONGEST_NAME" 12, .glo "ARGUMENTS"] : List He.Fa) ++ ([.free "abs", .free "range", .free "tuple", .free "isinstance", .free "list", .free "dict", .free "str", .free "bool"] : List He.Fa) ++ ([.glo "words_of", .glo "number_of", .glo "is_name", .glo "from_bits", .glo "lookup", .glo "swapped", .glo "inverted", .glo "fixed"] : List He.Fa) ++ ([.glo "depends", .glo "_law_pool", .glo "_law_draw", .glo "_law_same", .glo "_law_is_name", .glo "_law_signs", .glo "_law_typed_line", .glo "_law_typed_word"] : List He.Fa) ++ ([.glo "_law_cut_at_spaces", .glo "_law_number_due", .glo "_law_first_part", .glo "_law_bits", .glo "_law_number", .glo "_law_fixed_right", .glo "_law_right", .glo "_law_second_part"] : List He.Fa)
def gd_ARGUMENTS : PyData := .tuple [.tuple [.int 0, .int 0], .tuple [.int 0, .int 1], .tuple [.int 1, .int 0], .tuple [.int 1, .int 1]]
def ex (K : PySem.W.Frag) : Bool := kd K gd_ARGUMENTS (.ref (He.ga K "ARGUMENTS")) && true
structure KF (K : PySem.W.Frag) : Prop where
  fact : ∀ (i : Nat) {f : He.Fa}, fa[i]? = some f → f.ok K = true
  ex : ex K = true
theorem kf_ARGUMENTS {K : PySem.W.Frag} (κ : KF K) : kd K gd_ARGUMENTS (.ref (He.ga K "ARGUMENTS")) = true := (He.ba κ.ex).1
structure Zz (P : Program) (w : World) (K : PySem.W.Frag) (mg : Str → Option Value) (base : Heap) : Prop where
  X : K.In base
  G : base.Ns mainGlobals mg
  c : He.SaysD fa fn K
  k : KF K
section
variable {P : Program} {w : World} {K : PySem.W.Frag} {mg : Str → Option Value} {base : Heap}
theorem Zz.fact (Z : Zz P w K mg base) (i : Nat) {f : He.Fa} (h : fa[i]? = some f := by rfl) : f.ok K = true := Z.c.fact i h
end
def g_kb_fixed_1_second : List V → List V → List V := fun vs zs => vs ++ ([V.non] ++ zs)
def g_kb_fixed_1_first : List V → List V → List V := fun vs zs => vs ++ (zs ++ [V.non])
def g_kb_fixed_1_second_first : List V → List V → List V := fun vs zs => vs ++ (((zs.drop 1).take 1) ++ ((zs.drop 0).take 1))
def g_kb_fixed_1_first_second : List V → List V → List V := fun vs zs => vs ++ (((zs.drop 0).take 1) ++ ((zs.drop 1).take 1))
/-! ### words_of: slots 0 line 1 word -/
def splW (cs : List Nat) : List (List Nat) := (TL.spl [32] 0 [] cs).filter (fun w => !decide (w = []))
def txV (w : List Nat) : V := .str ⟨w.toArray⟩
def sp_words_of (K : PySem.W.Frag) : Sp := fun vs H Q _ => ∃ (z : Str), vs = [.str z] ∧ z.length ≤ 100000 ∧ ∀ p H', H p = none → Same H H' → H' p = some (.lst ((splW z.cps.toList).map txV)) → Q (.ref p) H'
theorem spl_len (b : List Nat) : ∀ (a acc : List Nat) (k : Nat), (TL.spl b k acc a).length ≤ a.length + 1
  | [], acc, k => by rw [TL.spl_nil]; simp
  | c :: r, acc, 0 => by
    unfold TL.spl
    split
    · have := spl_len b r [] (b.length - 1)
      simp only [List.length_cons]
      omega
    · have := spl_len b r (acc ++ [c]) 0
      simp only [List.length_cons]
      omega
  | c :: r, acc, k + 1 => by
    unfold TL.spl
    have := spl_len b r acc k
    simp only [List.length_cons]
    omega
theorem split_tx (z : Str) : Txt.split z " " = (TL.spl [32] 0 [] z.cps.toList).map fun w => ⟨w.toArray⟩ := by
  have h := SX.split_S (a := z.cps.toList) (b := [32]) (by simp) (by decide)
  rw [SX.S_tl] at h
  exact h
theorem filt_tx : ∀ l : List (List Nat), ((l.map fun w => (⟨w.toArray⟩ : Str)).map V.str).filterMap (fun v => if v = .str "" then none else some v) = (l.filter (fun w => !decide (w = []))).map txV
  | [] => rfl
  | w :: r => by
    rw [List.map_cons, List.map_cons, List.filterMap_cons, List.filter_cons, filt_tx r]
    cases w with
    | nil => rfl
    | cons c w =>
      have e0 : ("" : Str) = ⟨#[]⟩ := by decide +kernel
      rw [if_neg (by rw [e0]; simp)]
      rfl
def t_words_of (K : PySem.W.Frag) (E : XK) : TS := tRet (tLc (iSq K (tM1 rSplit1 (tVar 0) (tC (.str " ")))) (gName 1) (tTest (tOp (rNe1 K) (tVar 1) (tC (.str "")))) (tVar 1) [1])
theorem pure_words_of {K : PySem.W.Frag} (κ : KF K) (vs : List V) (H : Hp) (Q : VK) (E : XK) (h : sp_words_of K vs H Q E) : t_words_of K E ⟨fun _ H' => Q .non H', Q, fun _ _ => False, fun _ _ => False⟩ (start [("line" : Str), "word"] vs) H := by
  unfold t_words_of
  obtain ⟨z, rfl, hz, q⟩ := h
  refine x_start (σ' := [some _, none]) ?_ rfl
  have s := start_s H
  walk_at "sx"
  refine x_split s (by decide +kernel) hz fun p H1 s => ?_
  have s := s.freezeL (K := K)
  have e : (TL.spl [32] 0 [] z.cps.toList).length = ((Txt.split z " ").map V.str).length := by rw [split_tx, List.length_map, List.length_map]
  have hl := spl_len [32] z.cps.toList [] 0
  refine x_lcFM (b := true) (fun v => if v = .str "" then none else some v) s (fun B f => f.1) (by rw [← e]; rw [str_len] at hz; omega) ?_ ?_
  · intro D acc x H Put Skip hx put skip s
    obtain ⟨w, _, rfl⟩ := List.mem_map.mp hx
    walk_at "wipe"
    walk_at "sx"
    refine ⟨rfl, ?_⟩
    walk_at "sx"
    refine x_neS rfl ?_
    walk_at "sx"
    refine x_ifn (fun h => ?_) (fun h => ?_)
    · walk_at "sx"
      exact put _ _ (if_neg h) s
    · walk_at "sx"
      exact skip _ (if_pos h) s
  · intro D H' s
    walk_at "sx"
    refine q _ _ ?_ s.fact.2 ?_
    · exact s.fresh (List.mem_cons_self ..) fun B f => f.2
    · have h := s.at 0 rfl
      rw [split_tx, filt_tx] at h
      exact h
/-! ### number_of: slots 0 word 1 char -/
def numW (cs : List Nat) : Option Int := if cs.length < 1 ∨ 5 < cs.length then none else if ¬ (∀ c ∈ cs, c ∈ DIG) then none else if cs.head? = some 48 ∧ 1 < cs.length then none else some ((NumText.digitsVal cs : Nat) : Int)
def sp_number_of (K : PySem.W.Frag) : Sp := fun vs H Q _ => ∃ (z : Str), vs = [.str z] ∧ z.length ≤ sizeLine ∧ Q (opV (numW z.cps.toList)) H
def t_number_of (K : PySem.W.Frag) (E : XK) : TS := tSeq (tIfS (tNot (tTest (tChain rLe1 rLe1 (tC (.int 1)) (tCB (rLen1 K) (tCons (tVar 0) (tNil))) (tC (.int 5))))) (tRet (tC .non)) (tNext)) (tSeq (tFor (iStr (tVar 0)) (gName 1) (tIfS (tTest (tOp (rNotIn1 K) (tVar 1) (tC (.str "0123456789")))) (tRet (tC .non)) (tNext))) (tSeq (tIfS (tAnd (tTest (tOp (rEq1 K) (tOp (rIx1 K) (tVar 0) (tC (.int 0))) (tC (.str "0")))) (tTest (tOp rGt1 (tCB (rLen1 K) (tCons (tVar 0) (tNil))) (tC (.int 1))))) (tRet (tC .non)) (tNext)) (tRet (tCB rInt1 (tCons (tVar 0) (tNil))))))
theorem pure_number_of {K : PySem.W.Frag} (κ : KF K) (vs : List V) (H : Hp) (Q : VK) (E : XK) (h : sp_number_of K vs H Q E) : t_number_of K E ⟨fun _ H' => Q .non H', Q, fun _ _ => False, fun _ _ => False⟩ (start [("word" : Str), "char"] vs) H := by
  unfold t_number_of
  obtain ⟨z, rfl, hz, q⟩ := h
  refine x_start (σ' := [some _, none]) ?_ rfl
  have out : (z.cps.toList.length < 1 ∨ 5 < z.cps.toList.length) → Q .non H := fun h => by
    have e : numW z.cps.toList = none := if_pos h
    rw [e] at q
    exact q
  walk_at "sx"
  refine x_lenS hz ?_
  rw [str_len]
  walk_at "sx"
  refine x_if (fun h1 => ?_) (fun h1 => ?_)
  · walk_at "sx"
    refine x_ifn (fun h2 => ?_) (fun h2 => ?_)
    · walk_at "sx"
      exact out (.inr (by omega))
    · have hn : ¬ (z.cps.toList.length < 1 ∨ 5 < z.cps.toList.length) := by omega
      walk_at "sx"
      refine x_forS (fun i σ' H' => H' = H ∧ (∃ v, σ' = [some (.str z), v]) ∧ ∀ c ∈ z.cps.toList.take i, c ∈ DIG) ⟨rfl, ⟨_, rfl⟩, fun c hc => by simp at hc⟩ ?_ ?_
      · rintro i c σ' H' hc ⟨rfl, ⟨v, rfl⟩, hd⟩
        have hc' := cps_get hc
        walk_at "sx"
        refine x_ifn (fun h3 => ?_) (fun h3 => ?_)
        · walk_at "sx"
          have e : numW z.cps.toList = none := by
            unfold numW
            rw [if_neg hn, if_pos fun h => h3 (h c (mem_of_get hc'))]
          rw [e] at q
          exact q
        · walk_at "sx"
          refine ⟨rfl, ⟨_, rfl⟩, fun d hd' => ?_⟩
          rw [List.take_add_one, hc'] at hd'
          rcases List.mem_append.mp hd' with h | h
          · exact hd d h
          · cases List.mem_singleton.mp h
            exact h3
      · rintro σ' H' ⟨rfl, ⟨v, rfl⟩, hd⟩
        rw [show z.cps.size = z.cps.toList.length by simp, List.take_length] at hd
        have dd : NumText.AllDigits z.cps.toList := fun c hc => (dig_iff c).mp (hd c hc)
        have ne : z.cps.toList ≠ [] := by
          intro h
          rw [h] at h1
          simp at h1
        obtain ⟨c, hc⟩ : ∃ c, z.cps.toList.head? = some c := by
          cases e : z.cps.toList with
          | nil => exact absurd e ne
          | cons c r => exact ⟨c, rfl⟩
        walk_at "sx"
        refine x_ixS hz (at_zero hc) ?_
        walk_at "sx"
        refine x_eqS rfl ?_
        walk_at "sx"
        have fin : ¬ (c = 48 ∧ 1 < z.cps.toList.length) → rInt1 [.str z] H' Q := fun hne => by
          refine x_intS (PySem.intText_digits dd ne (by rw [str_len]; omega)) (by rw [str_len]; omega) ?_
          have e : numW z.cps.toList = some ((NumText.digitsVal z.cps.toList : Nat) : Int) := by
            unfold numW
            rw [if_neg hn, if_neg (fun h => h hd), hc, if_neg fun h => hne ⟨Option.some.inj h.1, h.2⟩]
          rw [e] at q
          exact q
        refine x_if (fun h4 => ?_) (fun h4 => ?_)
        · have h4 : c = 48 := (str_is (by decide +kernel)).mp h4
          walk_at "sx"
          refine x_lenS hz ?_
          rw [str_len]
          walk_at "sx"
          refine x_if (fun h5 => ?_) (fun h5 => ?_)
          · walk_at "sx"
            have e : numW z.cps.toList = none := by
              unfold numW
              rw [if_neg hn, if_neg (fun h => h hd), if_pos ⟨by rw [hc, h4], by omega⟩]
            rw [e] at q
            exact q
          · walk_at "sx"
            exact fin fun h => h5 (by omega)
        · have h4 : c ≠ 48 := fun h => h4 ((str_is (by decide +kernel)).mpr h)
          walk_at "sx"
          exact fin fun h => h4 h.1
  · walk_at "sx"
    exact out (.inl (by omega))
/-! ### is_name: slots 0 text 1 char -/
def nameW (cs : List Nat) : Bool := decide (1 ≤ cs.length) && decide (cs.length ≤ 12) && cs.all (fun c => decide (c ∈ LET) || decide (c ∈ DIG)) && (match cs with | [] => false | c :: _ => decide (c ∈ LET))
def sp_is_name (K : PySem.W.Frag) : Sp := fun vs H Q _ => ∃ (z : Str), vs = [.str z] ∧ z.length ≤ sizeLine ∧ Q (.bl (nameW z.cps.toList)) H
theorem nameW_hd {cs : List Nat} {c : Nat} (h1 : 1 ≤ cs.length) (h2 : cs.length ≤ 12) (h : ∀ d ∈ cs, d ∈ LET ∨ d ∈ DIG) (hc : cs.head? = some c) : nameW cs = decide (c ∈ LET) := by
  unfold nameW
  have e : cs.all (fun c => decide (c ∈ LET) || decide (c ∈ DIG)) = true := by
    rw [List.all_eq_true]
    intro d hd
    simpa using h d hd
  rw [decide_eq_true h1, decide_eq_true h2, e]
  cases cs with
  | nil => cases hc
  | cons a r =>
    cases hc
    simp
theorem nameW_bad {cs : List Nat} {c : Nat} (h : c ∈ cs) (h1 : c ∉ LET) (h2 : c ∉ DIG) : nameW cs = false := by
  unfold nameW
  have e : cs.all (fun c => decide (c ∈ LET) || decide (c ∈ DIG)) = false := by
    rw [List.all_eq_false]
    exact ⟨c, h, by simp [h1, h2]⟩
  rw [e]
  simp
theorem nameW_len {cs : List Nat} (h : ¬ (1 ≤ cs.length ∧ cs.length ≤ 12)) : nameW cs = false := by
  unfold nameW
  by_cases h1 : 1 ≤ cs.length
  · rw [decide_eq_false (show ¬ cs.length ≤ 12 by omega)]
    simp
  · rw [decide_eq_false h1]
    simp
theorem head_ex {cs : List Nat} (h : 1 ≤ cs.length) : ∃ c, cs.head? = some c := by
  cases cs with
  | nil => simp at h
  | cons c r => exact ⟨c, rfl⟩
def t_is_name (K : PySem.W.Frag) (E : XK) : TS := tSeq (tIfS (tNot (tTest (tChain rLe1 rLe1 (tC (.int 1)) (tCB (rLen1 K) (tCons (tVar 0) (tNil))) (tC (.int 12))))) (tRet (tC (.bl false))) (tNext)) (tSeq (tFor (iStr (tVar 0)) (gName 1) (tIfS (tAnd (tTest (tOp (rNotIn1 K) (tVar 1) (tC (.str "abcdefghijklmnopqrstuvwxyz")))) (tTest (tOp (rNotIn1 K) (tVar 1) (tC (.str "0123456789"))))) (tRet (tC (.bl false))) (tNext))) (tRet (tOp (rIn1 K) (tOp (rIx1 K) (tVar 0) (tC (.int 0))) (tC (.str "abcdefghijklmnopqrstuvwxyz")))))
theorem pure_is_name {K : PySem.W.Frag} (κ : KF K) (vs : List V) (H : Hp) (Q : VK) (E : XK) (h : sp_is_name K vs H Q E) : t_is_name K E ⟨fun _ H' => Q .non H', Q, fun _ _ => False, fun _ _ => False⟩ (start [("text" : Str), "char"] vs) H := by
  unfold t_is_name
  obtain ⟨z, rfl, hz, q⟩ := h
  refine x_start (σ' := [some _, none]) ?_ rfl
  walk_at "sx"
  refine x_lenS hz ?_
  rw [str_len]
  walk_at "sx"
  refine x_if (fun h1 => ?_) (fun h1 => ?_)
  · walk_at "sx"
    refine x_ifn (fun h2 => ?_) (fun h2 => ?_)
    · walk_at "sx"
      rw [nameW_len (by omega)] at q
      exact q
    · walk_at "sx"
      refine x_forS (fun i σ' H' => H' = H ∧ (∃ v, σ' = [some (.str z), v]) ∧ ∀ c ∈ z.cps.toList.take i, c ∈ LET ∨ c ∈ DIG) ⟨rfl, ⟨_, rfl⟩, fun c hc => by simp at hc⟩ ?_ ?_
      · rintro i c σ' H' hc ⟨rfl, ⟨v, rfl⟩, hd⟩
        have hc' := cps_get hc
        have good : (c ∈ LET ∨ c ∈ DIG) → ∀ d ∈ z.cps.toList.take (i + 1), d ∈ LET ∨ d ∈ DIG := by
          intro hcc d hd'
          rw [List.take_add_one, hc'] at hd'
          rcases List.mem_append.mp hd' with h | h
          · exact hd d h
          · cases List.mem_singleton.mp h
            exact hcc
        walk_at "sx"
        refine x_ifn (fun h3 => ?_) (fun h3 => ?_)
        · walk_at "sx"
          refine x_ifn (fun h4 => ?_) (fun h4 => ?_)
          · walk_at "sx"
            rw [nameW_bad (mem_of_get hc') h3 h4] at q
            exact q
          · walk_at "sx"
            exact ⟨rfl, ⟨_, rfl⟩, good (.inr h4)⟩
        · walk_at "sx"
          exact ⟨rfl, ⟨_, rfl⟩, good (.inl h3)⟩
      · rintro σ' H' ⟨rfl, ⟨v, rfl⟩, hd⟩
        rw [show z.cps.size = z.cps.toList.length by simp, List.take_length] at hd
        obtain ⟨c, hc⟩ := head_ex (cs := z.cps.toList) (by omega)
        walk_at "sx"
        refine x_ixS hz (at_zero hc) ?_
        walk_at "sx"
        rw [nameW_hd (by omega) (by omega) hd hc] at q
        exact q
  · walk_at "sx"
    rw [nameW_len (by omega)] at q
    exact q
/-! ### from_bits: slots 0 bits 1 value 2 weight 3 bit -/
def numOf : List Int → Int
  | [] => 0
  | b :: r => b + 2 * numOf r
theorem numOf_snoc (l : List Int) (b : Int) : numOf (l ++ [b]) = numOf l + 2 ^ l.length * b := by
  induction l with
  | nil => simp [numOf]
  | cons a r ih => simp only [List.cons_append, numOf, ih, List.length_cons, Int.pow_succ, Int.mul_add, Int.add_assoc]; congr 2; rw [← Int.mul_assoc, Int.mul_comm 2]
theorem numOf_take {l : List Int} {i : Nat} {b : Int} (h : l[i]? = some b) : numOf (l.take (i + 1)) = numOf (l.take i) + 2 ^ i * b := by
  have hi : i < l.length := (List.getElem?_eq_some_iff.mp h).1
  rw [List.take_add_one, h, Option.toList_some, numOf_snoc, List.length_take, Nat.min_eq_left (Nat.le_of_lt hi)]
def sp_from_bits (K : PySem.W.Frag) : Sp := fun vs H Q _ => ∃ (b : Bool) (a : Addr) (xs : List Int), vs = [.ref a] ∧ SqB b K H a (xs.map V.int) ∧ (∀ x ∈ xs, 0 ≤ x ∧ x ≤ 1) ∧ Q (.int (numOf xs)) H
def t_from_bits (K : PySem.W.Frag) (E : XK) : TS := tSeq (tAsg (tC (.int 0)) (gName 1)) (tSeq (tAsg (tC (.int 1)) (gName 2)) (tSeq (tFor (iSq K (tVar 0)) (gName 3) (tSeq (tAsg (tOp (rAdd1 K) (tVar 1) (tOp (rMul1 K) (tVar 2) (tVar 3))) (gName 1)) (tAsg (tOp (rMul1 K) (tC (.int 2)) (tVar 2)) (gName 2)))) (tRet (tVar 1))))
theorem pure_from_bits {K : PySem.W.Frag} (κ : KF K) (vs : List V) (H : Hp) (Q : VK) (E : XK) (h : sp_from_bits K vs H Q E) : t_from_bits K E ⟨fun _ H' => Q .non H', Q, fun _ _ => False, fun _ _ => False⟩ (start [("bits" : Str), "value", "weight", "bit"] vs) H := by
  unfold t_from_bits
  obtain ⟨b, a, xs, rfl, hs, hx, q⟩ := h
  refine x_start (σ' := [some _, none, none, none]) ?_ rfl
  walk_at "sx"
  refine x_forB hs (fun i σ' H' => H' = H ∧ ∃ v, σ' = [some (.ref a), some (.int (numOf (xs.take i))), some (.int (2 ^ i)), v]) ⟨rfl, _, rfl⟩ ?_ ?_ ?_
  · rintro i σ' H' ⟨rfl, _⟩
    exact hs
  · rintro i x σ' H' hx' ⟨rfl, v, rfl⟩
    rw [List.getElem?_map] at hx'
    cases e : xs[i]? with
    | none => rw [e] at hx'; cases hx'
    | some y =>
      rw [e] at hx'
      cases hx'
      obtain ⟨h0, h1⟩ := hx y (mem_of_get e)
      walk_at "sx"
      refine ⟨rfl, some (.int y), ?_⟩
      rw [numOf_take e, Int.pow_succ, Int.mul_comm 2]
  · rintro σ' H' ⟨rfl, v, rfl⟩
    walk_at "sx"
    rw [List.length_map, List.take_length]
    exact q
/-! ### lookup: slots 0 table 1 first 2 second -/
def lk (t f s : Int) : Int := Builtin.bitAnd (t / 2 ^ (2 * f + s).toNat) 1
theorem lk_bit (t f s : Int) (ht : 0 ≤ t) (h : t ≤ 15) (hf : 0 ≤ f ∧ f ≤ 1) (hs : 0 ≤ s ∧ s ≤ 1) : 0 ≤ lk t f s ∧ lk t f s ≤ 1 := by
  have key : ∀ a : Fin 16, ∀ b c : Fin 2, 0 ≤ lk a.val b.val c.val ∧ lk a.val b.val c.val ≤ 1 := by decide +kernel
  obtain ⟨a, rfl⟩ : ∃ a : Nat, t = a := ⟨t.toNat, by omega⟩
  obtain ⟨b, rfl⟩ : ∃ a : Nat, f = a := ⟨f.toNat, by omega⟩
  obtain ⟨c, rfl⟩ : ∃ a : Nat, s = a := ⟨s.toNat, by omega⟩
  exact key ⟨a, by omega⟩ ⟨b, by omega⟩ ⟨c, by omega⟩
def sp_lookup (K : PySem.W.Frag) : Sp := fun vs H Q _ => ∃ (t f s : Int), vs = [.int t, .int f, .int s] ∧ 0 ≤ f ∧ 0 ≤ s ∧ Q (.int (lk t f s)) H
def t_lookup (K : PySem.W.Frag) (E : XK) : TS := tRet (tOp rBitAnd1 (tOp rShr1 (tVar 0) (tOp (rAdd1 K) (tOp (rMul1 K) (tC (.int 2)) (tVar 1)) (tVar 2))) (tC (.int 1)))
theorem pure_lookup {K : PySem.W.Frag} (κ : KF K) (vs : List V) (H : Hp) (Q : VK) (E : XK) (h : sp_lookup K vs H Q E) : t_lookup K E ⟨fun _ H' => Q .non H', Q, fun _ _ => False, fun _ _ => False⟩ (start [("table" : Str), "first", "second"] vs) H := by
  unfold t_lookup
  obtain ⟨t, f, s, rfl, h1, h2, q⟩ := h
  refine x_start (σ' := [some _, some _, some _]) ?_ rfl
  walk_at "sx"
  refine x_shr (by omega) ?_
  walk_at "sx"
  exact q
/-! ### swapped: slots 0 table 1 x 2 y -/
def dAR : List PyData := [.tuple [.int 0, .int 0], .tuple [.int 0, .int 1], .tuple [.int 1, .int 0], .tuple [.int 1, .int 1]]
def arOf : Nat → Int × Int
  | 0 => (0, 0) | 1 => (0, 1) | 2 => (1, 0) | _ => (1, 1)
/-- the four places -/
theorem args_at {K : PySem.W.Frag} (h : kd K (.tuple dAR) (.ref (He.ga K "ARGUMENTS")) = true) : ∃ xs : List V, xs.length = 4 ∧ ∀ H, SqT K H (He.ga K "ARGUMENTS") xs ∧
    ∀ (i : Nat) (x : V), xs[i]? = some x → ∃ a, x = .ref a ∧ SqT K H a [.int (arOf i).1, .int (arOf i).2] := by
  obtain ⟨xs, hx⟩ := kd_tup h
  have hl := dpAll_len (hx fun _ => none).2
  refine ⟨xs, hl, fun H => ⟨(hx H).1, fun i x hi => ?_⟩⟩
  have q := (hx H).2
  have h4 : i < 4 := by
    have := (List.getElem?_eq_some_iff.mp hi).1
    rw [hl] at this
    exact this
  have hd : dAR[i]? = some (.tuple [.int (arOf i).1, .int (arOf i).2]) := by
    match i, h4 with
    | 0, _ => rfl
    | 1, _ => rfl
    | 2, _ => rfl
    | 3, _ => rfl
  obtain ⟨v, e, q⟩ := dpAll_get q hd
  rw [hi] at e
  cases e
  exact dp_pair q
theorem ar_bit (i : Nat) : 0 ≤ (arOf i).1 ∧ (arOf i).1 ≤ 1 ∧ 0 ≤ (arOf i).2 ∧ (arOf i).2 ≤ 1 := by
  match i with
  | 0 => decide
  | 1 => decide
  | 2 => decide
  | n + 3 => exact (by decide : 0 ≤ (1 : Int) ∧ (1 : Int) ≤ 1 ∧ 0 ≤ (1 : Int) ∧ (1 : Int) ≤ 1)
theorem lk4_bits {l : List Int} (h : ∀ x ∈ l, 0 ≤ x ∧ x ≤ 1) : ∀ x ∈ l, 0 ≤ x ∧ x ≤ 1 := h
def swT (t : Int) : Int := numOf [lk t 0 0, lk t 1 0, lk t 0 1, lk t 1 1]
def sp_swapped (K : PySem.W.Frag) : Sp := fun vs H Q _ => ∃ (t : Int), vs = [.int t] ∧ 0 ≤ t ∧ t ≤ 15 ∧ ∀ H', Same H H' → Q (.int (swT t)) H'
def t_swapped (K : PySem.W.Frag) (E : XK) : TS := tRet (tCall (sp_from_bits K) [] E0 (tCons (tLc (iSq K (tC (.ref (He.ga K "ARGUMENTS")))) (gTup K 2 (gCons (gName 1) (gCons (gName 2) (gNil)))) (tYes) (tCall (sp_lookup K) [] E0 (tCons (tVar 0) (tCons (tVar 2) (tCons (tVar 1) (tNil))))) [1, 2]) (tNil)))
theorem pure_swapped {K : PySem.W.Frag} (κ : KF K) (vs : List V) (H : Hp) (Q : VK) (E : XK) (h : sp_swapped K vs H Q E) : t_swapped K E ⟨fun _ H' => Q .non H', Q, fun _ _ => False, fun _ _ => False⟩ (start [("table" : Str), "x", "y"] vs) H := by
  unfold t_swapped
  obtain ⟨t, rfl, t0, t1, q⟩ := h
  obtain ⟨xs, hl, hA⟩ := args_at (kf_ARGUMENTS κ)
  refine x_start (σ' := [some _, none, none]) ?_ rfl
  have s := start_s H
  walk_at "sx"
  refine x_lcFI (b := false) (fun i => some (.int (lk t (arOf i).2 (arOf i).1))) s (fun B _ => (hA B).1) hl (by decide) ?_ ?_
  · intro D acc i x H Put Skip hx put skip s
    obtain ⟨a, rfl, ha⟩ := (hA H).2 i x hx
    have hb := ar_bit i
    walk_at "wipe"
    refine x_gtup ha rfl ?_
    walk_at "sx"
    refine ⟨rfl, ?_⟩
    walk_at "sx"
    exact ⟨_, _, _, rfl, hb.2.2.1, hb.1, put _ _ rfl s⟩
  · intro D H s
    walk_at "sx"
    exact ⟨true, D, [lk t 0 0, lk t 1 0, lk t 0 1, lk t 1 1], rfl, sq_l (s.at 0 rfl), fun x hx => by
      simp only [List.mem_cons, List.not_mem_nil, or_false] at hx
      rcases hx with rfl | rfl | rfl | rfl <;> exact lk_bit t _ _ t0 t1 (by decide) (by decide), q _ s.fact⟩
/-! ### inverted: slots 0 table 1 first 2 second 3 x 4 y -/
def ivT (t f s : Int) : Int := numOf [lk t (Builtin.bitXor 0 f) (Builtin.bitXor 0 s), lk t (Builtin.bitXor 0 f) (Builtin.bitXor 1 s), lk t (Builtin.bitXor 1 f) (Builtin.bitXor 0 s), lk t (Builtin.bitXor 1 f) (Builtin.bitXor 1 s)]
theorem xor_bit {a b : Int} (ha : 0 ≤ a ∧ a ≤ 1) (hb : 0 ≤ b ∧ b ≤ 1) : 0 ≤ Builtin.bitXor a b ∧ Builtin.bitXor a b ≤ 1 := by
  have h1 : a = 0 ∨ a = 1 := by omega
  have h2 : b = 0 ∨ b = 1 := by omega
  rcases h1 with rfl | rfl <;> rcases h2 with rfl | rfl <;> decide +kernel
def sp_inverted (K : PySem.W.Frag) : Sp := fun vs H Q _ => ∃ (t f s : Int), vs = [.int t, .int f, .int s] ∧ 0 ≤ t ∧ t ≤ 15 ∧ (0 ≤ f ∧ f ≤ 1) ∧ (0 ≤ s ∧ s ≤ 1) ∧ ∀ H', Same H H' → Q (.int (ivT t f s)) H'
def t_inverted (K : PySem.W.Frag) (E : XK) : TS := tRet (tCall (sp_from_bits K) [] E0 (tCons (tLc (iSq K (tC (.ref (He.ga K "ARGUMENTS")))) (gTup K 2 (gCons (gName 3) (gCons (gName 4) (gNil)))) (tYes) (tCall (sp_lookup K) [] E0 (tCons (tVar 0) (tCons (tOp rBitXor1 (tVar 3) (tVar 1)) (tCons (tOp rBitXor1 (tVar 4) (tVar 2)) (tNil))))) [3, 4]) (tNil)))
theorem pure_inverted {K : PySem.W.Frag} (κ : KF K) (vs : List V) (H : Hp) (Q : VK) (E : XK) (h : sp_inverted K vs H Q E) : t_inverted K E ⟨fun _ H' => Q .non H', Q, fun _ _ => False, fun _ _ => False⟩ (start [("table" : Str), "first", "second", "x", "y"] vs) H := by
  unfold t_inverted
  obtain ⟨t, f, z, rfl, t0, t1, hf, hz, q⟩ := h
  obtain ⟨xs, hl, hA⟩ := args_at (kf_ARGUMENTS κ)
  refine x_start (σ' := [some _, some _, some _, none, none]) ?_ rfl
  have s := start_s H
  walk_at "sx"
  refine x_lcFI (b := false) (fun i => some (.int (lk t (Builtin.bitXor (arOf i).1 f) (Builtin.bitXor (arOf i).2 z)))) s (fun B _ => (hA B).1) hl (by decide) ?_ ?_
  · intro D acc i x H Put Skip hx put skip s
    obtain ⟨a, rfl, ha⟩ := (hA H).2 i x hx
    have hb := ar_bit i
    walk_at "wipe"
    refine x_gtup ha rfl ?_
    walk_at "sx"
    refine ⟨rfl, ?_⟩
    walk_at "sx"
    exact ⟨_, _, _, rfl, (xor_bit ⟨hb.1, hb.2.1⟩ hf).1, (xor_bit hb.2.2 hz).1, put _ _ rfl s⟩
  · intro D H s
    walk_at "sx"
    refine ⟨true, D, [lk t (Builtin.bitXor 0 f) (Builtin.bitXor 0 z), lk t (Builtin.bitXor 0 f) (Builtin.bitXor 1 z), lk t (Builtin.bitXor 1 f) (Builtin.bitXor 0 z), lk t (Builtin.bitXor 1 f) (Builtin.bitXor 1 z)], rfl, sq_l (s.at 0 rfl), fun x hx => ?_, q _ s.fact⟩
    simp only [List.mem_cons, List.not_mem_nil, or_false] at hx
    rcases hx with rfl | rfl | rfl | rfl <;> exact lk_bit t _ _ t0 t1 (xor_bit (by decide) hf) (xor_bit (by decide) hz)
/-! ### fixed: slots 0 table 1 first 2 second 3 answers 4 x 5 y 6 left 7 right -/
def opG (o : Option Int) (i : Int) : Int := o.getD i
def fxT (t : Int) (f s : Option Int) : Int := numOf [lk t (opG f 0) (opG s 0), lk t (opG f 0) (opG s 1), lk t (opG f 1) (opG s 0), lk t (opG f 1) (opG s 1)]
def BitO (o : Option Int) : Prop := ∀ i, o = some i → 0 ≤ i ∧ i ≤ 1
theorem BitO.get {o : Option Int} (h : BitO o) {i : Int} (hi : 0 ≤ i ∧ i ≤ 1) : 0 ≤ opG o i ∧ opG o i ≤ 1 := by
  cases o with
  | none => exact hi
  | some j => exact h j rfl
theorem pick_op {o : Option Int} {d : Int} {a b : Nat} {σ : L2.St} {H : Hp} {Q : VK} (h1 : σ[a]? = some (some (.int d))) (h2 : σ[b]? = some (some (opV o))) (q : Q (.int (opG o d)) H) :
    if decide (opV o = .non) = true then tVar a σ H Q else tVar b σ H Q := by
  cases o with
  | none => exact x_if (fun _ => x_var h1 q) (fun n => absurd rfl n)
  | some j => exact x_if (fun n => nomatch n) (fun _ => x_var h2 q)
def sp_fixed (K : PySem.W.Frag) : Sp := fun vs H Q _ => ∃ (t : Int) (f s : Option Int), vs = [.int t, opV f, opV s] ∧ 0 ≤ t ∧ t ≤ 15 ∧ BitO f ∧ BitO s ∧ ∀ H', Same H H' → Q (.int (fxT t f s)) H'
def t_fixed (K : PySem.W.Frag) (E : XK) : TS := tSeq (tAsg (tLst (tNil)) (gName 3)) (tSeq (tFor (iSq K (tC (.ref (He.ga K "ARGUMENTS")))) (gTup K 2 (gCons (gName 4) (gCons (gName 5) (gNil)))) (tSeq (tAsg (tIf (tTest (tOp rIs1 (tVar 1) (tC .non))) (tVar 4) (tVar 1)) (gName 6)) (tSeq (tAsg (tIf (tTest (tOp rIs1 (tVar 2) (tC .non))) (tVar 5) (tVar 2)) (gName 7)) (tDrop (tBM K "list" rAppend (tVar 3) (tCons (tCall (sp_lookup K) [] E0 (tCons (tVar 0) (tCons (tVar 6) (tCons (tVar 7) (tNil))))) (tNil))))))) (tRet (tCall (sp_from_bits K) [] E0 (tCons (tVar 3) (tNil)))))
theorem pure_fixed {K : PySem.W.Frag} (κ : KF K) (vs : List V) (H : Hp) (Q : VK) (E : XK) (h : sp_fixed K vs H Q E) : t_fixed K E ⟨fun _ H' => Q .non H', Q, fun _ _ => False, fun _ _ => False⟩ (start [("table" : Str), "first", "second", "answers", "x", "y", "left", "right"] vs) H := by
  unfold t_fixed
  obtain ⟨t, f, z, rfl, t0, t1, hf, hz, q⟩ := h
  obtain ⟨xs, hl, hA⟩ := args_at (kf_ARGUMENTS κ)
  refine x_start (σ' := [some _, some _, some _, none, none, none, none, none]) ?_ rfl
  have s := start_s H
  walk_at "sx"
  refine x_newL (by simp) s fun l H1 s => ?_
  walk_at "sx"
  refine x_forB (b := false) (hA H1).1 (fun i σ' H' => ∃ v1 v2 v3 v4, i ≤ 4 ∧ σ' = [some (.int t), some (opV f), some (opV z), some (.ref l), v1, v2, v3, v4] ∧ S (fun B => Same H B) [(l, .lst ((List.range i).map fun i => V.int (lk t (opG f (arOf i).1) (opG z (arOf i).2))))] H') ⟨_, _, _, _, by decide, rfl, s⟩ (fun i σ' H' _ => (hA H').1) ?_ ?_
  · rintro i x σ' H' hx ⟨v1, v2, v3, v4, hi, rfl, s⟩
    obtain ⟨a, rfl, ha⟩ := (hA H').2 i x hx
    have hb := ar_bit i
    have hi4 : i < 4 := by
      have := (List.getElem?_eq_some_iff.mp hx).1
      omega
    refine x_gtup ha rfl ?_
    walk_at "sx"
    refine pick_op (d := (arOf i).1) rfl rfl ?_
    walk_at "sx"
    refine pick_op (d := (arOf i).2) rfl rfl ?_
    walk_at "sx"
    have h1 := hf.get ⟨hb.1, hb.2.1⟩
    have h2 := hz.get hb.2.2
    refine ⟨t, _, _, rfl, h1.1, h2.1, ?_⟩
    walk_at "sx"
    refine x_append s (k := 0) rfl (by rw [List.length_map, List.length_range]; exact small1000 (by omega)) fun H2 s => ?_
    walk_at "sx"
    refine ⟨_, _, _, _, hi4, rfl, ?_⟩
    rw [List.range_succ, List.map_append]
    exact s
  · rintro σ' H' ⟨v1, v2, v3, v4, _, rfl, s⟩
    rw [hl] at s
    walk_at "sx"
    refine ⟨true, l, [lk t (opG f 0) (opG z 0), lk t (opG f 0) (opG z 1), lk t (opG f 1) (opG z 0), lk t (opG f 1) (opG z 1)], rfl, sq_l (s.at 0 rfl), fun x hx => ?_, q _ s.fact⟩
    simp only [List.mem_cons, List.not_mem_nil, or_false] at hx
    rcases hx with rfl | rfl | rfl | rfl <;> exact lk_bit t _ _ t0 t1 (hf.get (by decide)) (hz.get (by decide))
/-! ### depends: slots 0 table -/
def deT (t : Int) : Bool × Bool := (!decide (fxT t (some 0) none = fxT t (some 1) none), !decide (fxT t none (some 0) = fxT t none (some 1)))
def sp_depends (K : PySem.W.Frag) : Sp := fun vs H Q _ => ∃ (t : Int), vs = [.int t] ∧ 0 ≤ t ∧ t ≤ 15 ∧ ∀ p H', H p = none → Same H H' → H' p = some (.tup [.bl (deT t).1, .bl (deT t).2]) → Q (.ref p) H'
def t_depends (K : PySem.W.Frag) (E : XK) : TS := tRet (tTup (tCons (tOp (rNe1 K) (tCallN 1 1 (sp_fixed K) g_kb_fixed_1_first E0 (tCons (tVar 0) (tNil)) (tCons (tC (.int 0)) (tNil))) (tCallN 1 1 (sp_fixed K) g_kb_fixed_1_first E0 (tCons (tVar 0) (tNil)) (tCons (tC (.int 1)) (tNil)))) (tCons (tOp (rNe1 K) (tCallN 1 1 (sp_fixed K) g_kb_fixed_1_second E0 (tCons (tVar 0) (tNil)) (tCons (tC (.int 0)) (tNil))) (tCallN 1 1 (sp_fixed K) g_kb_fixed_1_second E0 (tCons (tVar 0) (tNil)) (tCons (tC (.int 1)) (tNil)))) (tNil))))
theorem pure_depends {K : PySem.W.Frag} (κ : KF K) (vs : List V) (H : Hp) (Q : VK) (E : XK) (h : sp_depends K vs H Q E) : t_depends K E ⟨fun _ H' => Q .non H', Q, fun _ _ => False, fun _ _ => False⟩ (start [("table" : Str)] vs) H := by
  unfold t_depends
  obtain ⟨t, rfl, t0, t1, q⟩ := h
  refine x_start (σ' := [some _]) ?_ rfl
  have b0 : BitO (some 0) := fun i h => by cases h; decide
  have b1 : BitO (some 1) := fun i h => by cases h; decide
  have bn : BitO none := fun i h => nomatch h
  walk_at "sx"
  refine ⟨rfl, rfl, t, some 0, none, rfl, t0, t1, b0, bn, fun H1 e1 => ?_⟩
  walk_at "sx"
  refine ⟨rfl, rfl, t, some 1, none, rfl, t0, t1, b1, bn, fun H2 e2 => ?_⟩
  walk_at "sx"
  refine ⟨rfl, rfl, t, none, some 0, rfl, t0, t1, bn, b0, fun H3 e3 => ?_⟩
  walk_at "sx"
  refine ⟨rfl, rfl, t, none, some 1, rfl, t0, t1, bn, b1, fun H4 e4 => ?_⟩
  walk_at "sx"
  have e := ((e1.trans e2).trans e3).trans e4
  exact ⟨by show 2 ≤ sizeLine; decide, fun p hp => q p _ (e.free hp) (e.trans (same_upd hp)) upd_same⟩
/-! ### _law_pool: slots 0 script 1 place 2 cell -/
theorem atI_emod {ns : List Int} {i : Int} (h : ns.length ≠ 0) : ∃ c : Int, atI (ns.map V.int) (i % ((ns.map V.int).length : Int)) = some (.int c) := by
  have h0 : (0 : Int) < ((ns.map V.int).length : Int) := by rw [List.length_map]; omega
  have h1 := Int.emod_nonneg i (Int.ne_of_gt h0)
  have h2 := Int.emod_lt_of_pos i h0
  obtain ⟨k, hk⟩ : ∃ k : Nat, i % ((ns.map V.int).length : Int) = k := ⟨_, (Int.toNat_of_nonneg h1).symm⟩
  rw [hk] at h2 ⊢
  have h3 : k < ns.length := by rw [List.length_map] at h2; omega
  exact ⟨ns[k], atI_nat (by simp [h3])⟩
/-! ### the pool and the draws of a law -/
def pl (a b c d : Int) : HO := .lst [.int a, .int b, .int c, .int d]
def sp_law_pool (K : PySem.W.Frag) : Sp := fun vs H Q _ => ∃ (a : Addr) (ns : List Int) (place : Int), vs = [.ref a, .int place] ∧ SqL K H a (ns.map V.int) ∧ 0 ≤ place ∧
  ∀ p H' x y z u, H p = none → Same H H' → H' p = some (pl x y z u) → Q (.ref p) H'
def t_law_pool (K : PySem.W.Frag) (E : XK) : TS := tSeq (tIfS (tTest (tOp (rEq1 K) (tCB (rLen1 K) (tCons (tVar 0) (tNil))) (tC (.int 0)))) (tRet (tLst (tCons (tC (.int 0)) (tCons (tC (.int 0)) (tCons (tC (.int 0)) (tCons (tC (.int 0)) (tNil))))))) (tNext)) (tSeq (tAsg (tCB rAbs1 (tCons (tOp (rIx1 K) (tVar 0) (tOp rMod1 (tCB rInt1 (tCons (tVar 1) (tNil))) (tCB (rLen1 K) (tCons (tVar 0) (tNil))))) (tNil))) (gName 2)) (tSeq (tIfS (tAnd (tTest (tOp rLt1 (tVar 1) (tCB (rLen1 K) (tCons (tVar 0) (tNil))))) (tTest (tOp rGe1 (tVar 2) (tOp rPow1 (tC (.int 10)) (tC (.int 18)))))) (tRet (tLst (tCons (tC (.int 1)) (tCons (tVar 2) (tCons (tOp rMod1 (tCB rInt1 (tCons (tVar 2) (tNil))) (tC (.int 2147483647))) (tCons (tC (.int 0)) (tNil))))))) (tNext)) (tRet (tLst (tCons (tC (.int 2)) (tCons (tC (.int 0)) (tCons (tOp rMod1 (tCB rInt1 (tCons (tOp (rAdd1 K) (tVar 2) (tOp (rMul1 K) (tC (.int 7919)) (tVar 1))) (tNil))) (tC (.int 2147483647))) (tCons (tC (.int 0)) (tNil)))))))))
theorem pure_law_pool {K : PySem.W.Frag} (κ : KF K) (vs : List V) (H : Hp) (Q : VK) (E : XK) (h : sp_law_pool K vs H Q E) : t_law_pool K E ⟨fun _ H' => Q .non H', Q, fun _ _ => False, fun _ _ => False⟩ (start [("script" : Str), "place", "cell"] vs) H := by
  unfold t_law_pool
  obtain ⟨a, ns, place, rfl, hs, hp, k⟩ := h
  refine x_start (σ' := [some _, some _, none]) ?_ rfl
  have fin : ∀ x y z u : Int, ∀ p, H p = none → Q (.ref p) (upd H p (.lst [.int x, .int y, .int z, .int u])) := fun x y z u p hp => k p _ x y z u hp (same_upd hp) upd_same
  walk_at "sx"
  refine x_lenL (.inl hs) ?_
  walk_at "sx"
  refine x_if (fun h0 => ?_) (fun h0 => ?_)
  · walk_at "sx"
    exact ⟨by decide, fin _ _ _ _⟩
  · have hn : ns.length ≠ 0 := by rw [List.length_map] at h0; omega
    obtain ⟨c, hc⟩ := atI_emod (ns := ns) (i := place) hn
    walk_at "sx"
    refine x_lenL (.inl hs) ?_
    walk_at "sx"
    refine x_ixL hs hc ?_
    walk_at "sx"
    refine x_lenL (.inl hs) ?_
    walk_at "sx"
    refine x_if (fun h1 => ?_) (fun h1 => ?_)
    · walk_at "sx"
      refine x_if (fun h2 => ?_) (fun h2 => ?_)
      · walk_at "sx"
        exact ⟨by show 4 ≤ sizeLine; decide, fin _ _ _ _⟩
      · walk_at "sx"
        exact ⟨by show 4 ≤ sizeLine; decide, fin _ _ _ _⟩
    · walk_at "sx"
      exact ⟨by show 4 ≤ sizeLine; decide, fin _ _ _ _⟩
/-! ### _law_draw: slots 0 pool 1 many 2 got 3 x -/
/-- a draw: some number below many, another pool -/
def sp_law_draw (K : PySem.W.Frag) : Sp := fun vs H Q _ => ∃ (F : Hp → Prop) (cs : List (Addr × HO)) (k : Nat) (l : Addr) (a b c d many : Int), vs = [.ref l, .int many] ∧ S F cs H ∧ cs[k]? = some (l, pl a b c d) ∧ 0 < many ∧ many < 2 ^ 8000 ∧
  ∀ H' x y z u r, 0 ≤ r → r < many → S F (cs.set k (l, pl x y z u)) H' → Q (.int r) H'
def t_law_draw (K : PySem.W.Frag) (E : XK) : TS := tSeq (tAsg (tOp (rAdd1 K) (tOp (rIx1 K) (tVar 0) (tC (.int 3))) (tC (.int 1))) (gSub (tVar 0) (tC (.int 3)) rSetL)) (tSeq (tIfS (tTest (tOp (rEq1 K) (tOp (rIx1 K) (tVar 0) (tC (.int 0))) (tC (.int 0)))) (tRet (tC (.int 0))) (tNext)) (tSeq (tIfS (tAnd (tTest (tOp (rEq1 K) (tOp (rIx1 K) (tVar 0) (tC (.int 0))) (tC (.int 1)))) (tAnd (tTest (tOp rLe1 (tOp (rIx1 K) (tVar 0) (tC (.int 3))) (tC (.int 60)))) (tTest (tOp rGt1 (tOp (rIx1 K) (tVar 0) (tC (.int 1))) (tC (.int 0)))))) (tSeq (tAsg (tOp rMod1 (tCB rInt1 (tCons (tOp (rIx1 K) (tVar 0) (tC (.int 1))) (tNil))) (tVar 1)) (gName 2)) (tSeq (tAsg (tOp rDiv1 (tOp (rIx1 K) (tVar 0) (tC (.int 1))) (tVar 1)) (gSub (tVar 0) (tC (.int 1)) rSetL)) (tRet (tVar 2)))) (tNext)) (tSeq (tAsg (tOp rMod1 (tCB rInt1 (tCons (tOp (rAdd1 K) (tOp (rAdd1 K) (tOp (rIx1 K) (tVar 0) (tC (.int 2))) (tOp (rMul1 K) (tC (.int 40503)) (tOp (rIx1 K) (tVar 0) (tC (.int 3))))) (tC (.int 17))) (tNil))) (tC (.int 2147483647))) (gName 3)) (tSeq (tAsg (tOp rMod1 (tCB rInt1 (tCons (tOp (rAdd1 K) (tOp (rAdd1 K) (tOp (rMul1 K) (tVar 3) (tVar 3)) (tOp (rMul1 K) (tC (.int 69621)) (tOp (rIx1 K) (tVar 0) (tC (.int 3))))) (tC (.int 5))) (tNil))) (tC (.int 2147483629))) (gName 3)) (tSeq (tAsg (tOp rMod1 (tCB rInt1 (tCons (tOp (rAdd1 K) (tOp (rAdd1 K) (tOp (rMul1 K) (tVar 3) (tVar 3)) (tC (.int 48271))) (tOp (rIx1 K) (tVar 0) (tC (.int 2)))) (tNil))) (tC (.int 2147483647))) (gName 3)) (tRet (tOp rMod1 (tCB rInt1 (tCons (tOp rDiv1 (tVar 3) (tC (.int 8))) (tNil))) (tVar 1))))))))
theorem pure_law_draw {K : PySem.W.Frag} (κ : KF K) (vs : List V) (H : Hp) (Q : VK) (E : XK) (h : sp_law_draw K vs H Q E) : t_law_draw K E ⟨fun _ H' => Q .non H', Q, fun _ _ => False, fun _ _ => False⟩ (start [("pool" : Str), "many", "got", "x"] vs) H := by
  unfold t_law_draw
  obtain ⟨F, cs, k, l, a, b, c, d, many, rfl, s, hk, h0, hm, q⟩ := h
  refine x_start (σ' := [some _, some _, none, none]) ?_ rfl
  have s := s.front hk
  unfold pl at s
  have fin : ∀ {H' : Hp} {x y z u r : Int}, 0 ≤ r → r < many → S F ((l, .lst [.int x, .int y, .int z, .int u]) :: cs.eraseIdx k) H' → Q (.int r) H' := fun h1 h2 s' => q _ _ _ _ _ _ h1 h2 (S.back hk s')
  walk_at "sx"
  refine x_setL s (k := 0) rfl (by rfl) fun H s => ?_
  simp only [List.set_cons_succ, List.set_cons_zero] at s
  walk_at "sx"
  refine x_if (fun h1 => ?_) (fun h1 => ?_)
  · walk_at "sx"
    exact fin (Int.le_refl _) h0 s
  · walk_at "sx"
    refine x_share ?_ (fun h2 hF => ?_)
    · walk_at "sx"
      exact fin (Int.emod_nonneg _ (Int.ne_of_gt h0)) (Int.emod_lt_of_pos _ h0) s
    · walk_at "sx"
      refine x_share hF (fun h3 _ => ?_)
      walk_at "sx"
      refine x_if (fun h4 => ?_) (fun _ => hF)
      walk_at "sx"
      refine x_setL s (k := 0) rfl (by rfl) fun H s => ?_
      simp only [List.set_cons_succ, List.set_cons_zero] at s
      walk_at "sx"
      exact fin (Int.emod_nonneg _ (Int.ne_of_gt h0)) (Int.emod_lt_of_pos _ h0) s
/-! ### _law_same: slots 0 told 1 due 2 name 3 k -/
/-! ### two data are the same -/
def Fit : Nat → PyData → Prop
  | 0, .list _ => False
  | 0, .tuple _ => False
  | n + 1, .list ds => ds.length < 2 ^ 30 ∧ ∀ d ∈ ds, Fit n d
  | n + 1, .tuple ds => ds.length < 2 ^ 30 ∧ ∀ d ∈ ds, Fit n d
  | _, _ => True
def sp_law_same (n : Nat) (K : PySem.W.Frag) : Sp := fun vs H Q _ => ∃ (x y : V) (d : PyData), vs = [x, y] ∧ Dp K H x d ∧ Dp K H y d ∧ Fit n d ∧ Q (.bl true) H
def t_law_same (K : PySem.W.Frag) (sp : Sp) (E : XK) : TS := tSeq (tIfS (tTest (tOp rIs1 (tVar 1) (tC .non))) (tRet (tOp rIs1 (tVar 0) (tC .non))) (tNext)) (tSeq (tIfS (tTest (tOp rIs1 (tVar 1) (tC (.bl true)))) (tRet (tOp rIs1 (tVar 0) (tC (.bl true)))) (tNext)) (tSeq (tIfS (tTest (tOp rIs1 (tVar 1) (tC (.bl false)))) (tRet (tOp rIs1 (tVar 0) (tC (.bl false)))) (tNext)) (tSeq (tIfS (tTr K (tCB (rIsi1 K) (tCons (tVar 1) (tCons (tC (.ty "int")) (tNil))))) (tRet (tAndV (tCB (rIsi1 K) (tCons (tVar 0) (tCons (tC (.ty "int")) (tNil)))) (tAndV (tNotV (tCB (rIsi1 K) (tCons (tVar 0) (tCons (tC (.ty "bool")) (tNil))))) (tOp (rEq1 K) (tVar 0) (tVar 1))))) (tNext)) (tSeq (tIfS (tTr K (tCB (rIsi1 K) (tCons (tVar 1) (tCons (tC (.ty "str")) (tNil))))) (tRet (tAndV (tCB (rIsi1 K) (tCons (tVar 0) (tCons (tC (.ty "str")) (tNil)))) (tOp (rEq1 K) (tVar 0) (tVar 1)))) (tNext)) (tSeq (tIfS (tTr K (tCB (rIsi1 K) (tCons (tVar 1) (tCons (tC (.ty "dict")) (tNil))))) (tSeq (tIfS (tOr (tNot (tTr K (tCB (rIsi1 K) (tCons (tVar 0) (tCons (tC (.ty "dict")) (tNil)))))) (tTest (tOp (rNe1 K) (tCB (rLen1 K) (tCons (tVar 0) (tNil))) (tCB (rLen1 K) (tCons (tVar 1) (tNil)))))) (tRet (tC (.bl false))) (tNext)) (tSeq (tFor (iSq K (tVar 1)) (gName 2) (tIfS (tOr (tTest (tOp (rNotIn1 K) (tVar 2) (tVar 0))) (tNot (tTr K (tCall sp [] E0 (tCons (tOp (rIx1 K) (tVar 0) (tVar 2)) (tCons (tOp (rIx1 K) (tVar 1) (tVar 2)) (tNil))))))) (tRet (tC (.bl false))) (tNext))) (tRet (tC (.bl true))))) (tNext)) (tSeq (tIfS (tAnd (tTr K (tCB (rIsi1 K) (tCons (tVar 1) (tCons (tC (.ty "list")) (tNil))))) (tNot (tTr K (tCB (rIsi1 K) (tCons (tVar 0) (tCons (tC (.ty "list")) (tNil))))))) (tRet (tC (.bl false))) (tNext)) (tSeq (tIfS (tAnd (tTr K (tCB (rIsi1 K) (tCons (tVar 1) (tCons (tC (.ty "tuple")) (tNil))))) (tNot (tTr K (tCB (rIsi1 K) (tCons (tVar 0) (tCons (tC (.ty "tuple")) (tNil))))))) (tRet (tC (.bl false))) (tNext)) (tSeq (tIfS (tTest (tOp (rNe1 K) (tCB (rLen1 K) (tCons (tVar 0) (tNil))) (tCB (rLen1 K) (tCons (tVar 1) (tNil))))) (tRet (tC (.bl false))) (tNext)) (tSeq (tFor (iRng1 (tCons (tCB (rLen1 K) (tCons (tVar 1) (tNil))) (tNil))) (gName 3) (tIfS (tNot (tTr K (tCall sp [] E0 (tCons (tOp (rIx1 K) (tVar 0) (tVar 3)) (tCons (tOp (rIx1 K) (tVar 1) (tVar 3)) (tNil)))))) (tRet (tC (.bl false))) (tNext))) (tRet (tC (.bl true))))))))))))
/-- the end of it: two lists or two tuples -/
theorem same_seq {K : PySem.W.Frag} {n : Nat} {sp : Sp} {b : Bool} {p q : Addr} {xs ys : List V} {ds : List PyData} {H : Hp} {Q : VK} {nx bk ct : L2.St → Hp → Prop} (hsp : ∀ vs H Q E, sp_law_same n K vs H Q E → sp vs H Q E)
    (h1 : SqB b K H p xs) (h2 : SqB b K H q ys) (a1 : DpAll K H xs ds) (a2 : DpAll K H ys ds) (hl : ds.length < 2 ^ 30) (hf : ∀ d ∈ ds, Fit n d) (fin : Q (.bl true) H) :
    tSeq (tIfS (tTest (tOp (rNe1 K) (tCB (rLen1 K) (tCons (tVar 0) (tNil))) (tCB (rLen1 K) (tCons (tVar 1) (tNil))))) (tRet (tC (.bl false))) (tNext)) (tSeq (tFor (iRng1 (tCons (tCB (rLen1 K) (tCons (tVar 1) (tNil))) (tNil))) (gName 3) (tIfS (tNot (tTr K (tCall sp [] E0 (tCons (tOp (rIx1 K) (tVar 0) (tVar 3)) (tCons (tOp (rIx1 K) (tVar 1) (tVar 3)) (tNil)))))) (tRet (tC (.bl false))) (tNext))) (tRet (tC (.bl true)))) ⟨nx, Q, bk, ct⟩ [some (.ref p), some (.ref q), none, none] H := by
  have l1 := dpAll_len a1
  have l2 := dpAll_len a2
  walk_at "sx"
  refine x_lenL h1.or ?_
  walk_at "sx"
  refine x_lenL h2.or ?_
  walk_at "sx"
  refine x_ifn (fun h => absurd (by rw [l1, l2]) h) (fun _ => ?_)
  walk_at "sx"
  refine x_lenL h2.or ?_
  walk_at "sx"
  refine x_forR1 (n := ds.length) (by rw [l2]) (by omega) (fun i σ' H' => H' = H ∧ ∃ v, σ' = [some (.ref p), some (.ref q), none, v]) ⟨rfl, _, rfl⟩ ?_ ?_
  · rintro i σ' H' hi ⟨rfl, v, rfl⟩
    walk_at "sx"
    obtain ⟨x, hx, dx⟩ := dpAll_get a1 (List.getElem?_eq_getElem hi)
    obtain ⟨y, hy, dy⟩ := dpAll_get a2 (List.getElem?_eq_getElem hi)
    have ix : ∀ {p : Addr} {xs : List V} {z : V} {Q : VK}, SqB b K H' p xs → xs[i]? = some z → Q z H' → rIx1 K (.ref p) (.int (i : Nat)) H' Q := fun h e q => by
      cases b
      · exact x_ixT h (atI_nat e) q
      · exact x_ixL h (atI_nat e) q
    refine ix h1 hx ?_
    walk_at "sx"
    refine ix h2 hy ?_
    walk_at "sx"
    refine hsp _ _ _ _ ⟨x, y, _, rfl, dx, dy, hf _ (List.getElem_mem hi), ?_⟩
    walk_at "sx"
    exact ⟨rfl, _, rfl⟩
  · rintro σ' H' ⟨rfl, v, rfl⟩
    walk_at "sx"
    exact fin
theorem pure_law_same {K : PySem.W.Frag} {n : Nat} {sp : Sp} (hsp : ∀ vs H Q E m, n = m + 1 → sp_law_same m K vs H Q E → sp vs H Q E) (vs : List V) (H : Hp) (Q : VK) (E : XK) (h : sp_law_same n K vs H Q E) :
    t_law_same K sp E ⟨fun _ H' => Q .non H', Q, fun _ _ => False, fun _ _ => False⟩ (start ["told", "due", "name", "k"] vs) H := by
  obtain ⟨x, y, d, rfl, dx, dy, hf, q⟩ := h
  unfold t_law_same
  refine x_start (σ' := [some _, some _, none, none]) ?_ rfl
  have tx := dp_ty dx
  have ty := dp_ty dy
  cases dx with
  | non =>
    cases dy
    walk_at "sx"
    exact x_if (fun _ => by walk_at "sx"; exact q) (fun h => absurd rfl h)
  | bl b =>
    cases dy
    walk_at "sx"
    refine x_if (fun h => nomatch h) (fun _ => ?_)
    walk_at "sx"
    refine x_if (fun h => ?_) (fun h => ?_)
    · cases h
      walk_at "sx"
      exact q
    · walk_at "sx"
      refine x_if (fun h => ?_) (fun h' => ?_)
      · cases h
        walk_at "sx"
        exact q
      · cases b
        · exact absurd rfl h'
        · exact absurd rfl h
  | int i =>
    cases dy
    walk_at "sx"
    refine x_if (fun h => nomatch h) (fun _ => ?_)
    walk_at "sx"
    refine x_if (fun h => nomatch h) (fun _ => ?_)
    walk_at "sx"
    refine x_if (fun h => nomatch h) (fun _ => ?_)
    walk_at "sx"
    refine x_isi (T := "int") ty (r := true) (by decide +kernel) ?_
    walk_at "sx"
    refine x_isi (T := "int") tx (r := true) (by decide +kernel) ?_
    walk_at "sx"
    refine x_isi (T := "int") tx (r := false) (by decide +kernel) ?_
    walk_at "sx"
    rw [decide_eq_true rfl]
    exact q
  | str z =>
    cases dy
    walk_at "sx"
    refine x_if (fun h => nomatch h) (fun _ => ?_)
    walk_at "sx"
    refine x_if (fun h => nomatch h) (fun _ => ?_)
    walk_at "sx"
    refine x_if (fun h => nomatch h) (fun _ => ?_)
    walk_at "sx"
    refine x_isi (T := "str") ty (r := false) (by decide +kernel) ?_
    walk_at "sx"
    refine x_isi (T := "str") ty (r := true) (by decide +kernel) ?_
    walk_at "sx"
    refine x_isi (T := "str") tx (r := true) (by decide +kernel) ?_
    walk_at "sx"
    refine x_eqS rfl ?_
    rw [decide_eq_true rfl]
    exact q
  | lst h1 k1 =>
    cases dy with | lst h2 k2 => ?_
    cases n with
    | zero => exact hf.elim
    | succ n =>
    walk_at "sx"
    refine x_if (fun h => nomatch h) (fun _ => ?_)
    walk_at "sx"
    refine x_if (fun h => nomatch h) (fun _ => ?_)
    walk_at "sx"
    refine x_if (fun h => nomatch h) (fun _ => ?_)
    walk_at "sx"
    refine x_isi (T := "list") ty (r := false) (by decide +kernel) ?_
    walk_at "sx"
    refine x_isi (T := "list") ty (r := false) (by decide +kernel) ?_
    walk_at "sx"
    refine x_isi (T := "list") ty (r := false) (by decide +kernel) ?_
    walk_at "sx"
    refine x_isi (T := "list") ty (r := true) (by decide +kernel) ?_
    walk_at "sx"
    refine x_isi (T := "list") tx (r := true) (by decide +kernel) ?_
    walk_at "sx"
    refine x_isi (T := "list") ty (r := false) (by decide +kernel) ?_
    refine x_trB (iteF (iteF (x_next ?_)))
    exact same_seq (b := true) (fun vs H Q E z => hsp vs H Q E n rfl z) h1 h2 k1 k2 hf.1 hf.2 q
  | tup h1 k1 =>
    cases dy with | tup h2 k2 => ?_
    cases n with
    | zero => exact hf.elim
    | succ n =>
    walk_at "sx"
    refine x_if (fun h => nomatch h) (fun _ => ?_)
    walk_at "sx"
    refine x_if (fun h => nomatch h) (fun _ => ?_)
    walk_at "sx"
    refine x_if (fun h => nomatch h) (fun _ => ?_)
    walk_at "sx"
    refine x_isi (T := "tuple") ty (r := false) (by decide +kernel) ?_
    walk_at "sx"
    refine x_isi (T := "tuple") ty (r := false) (by decide +kernel) ?_
    walk_at "sx"
    refine x_isi (T := "tuple") ty (r := false) (by decide +kernel) ?_
    walk_at "sx"
    refine x_isi (T := "tuple") ty (r := false) (by decide +kernel) ?_
    walk_at "sx"
    refine x_isi (T := "tuple") ty (r := true) (by decide +kernel) ?_
    walk_at "sx"
    refine x_isi (T := "tuple") tx (r := true) (by decide +kernel) ?_
    refine x_trB (x_ntT (x_next ?_))
    exact same_seq (b := false) (fun vs H Q E z => hsp vs H Q E n rfl z) h1 h2 k1 k2 hf.1 hf.2 q
/-! ### _law_is_name: slots 0 text 1 sign -/
def sp_law_is_name (K : PySem.W.Frag) : Sp := fun vs H Q _ => ∃ (z : Str), vs = [.str z] ∧ z.length ≤ sizeLine ∧ Q (.bl (nameW z.cps.toList)) H
theorem both_ld (c : Nat) : c ∈ ("abcdefghijklmnopqrstuvwxyz0123456789" : Str).cps.toList ↔ (c ∈ LET ∨ c ∈ DIG) := by
  have e : ("abcdefghijklmnopqrstuvwxyz0123456789" : Str).cps.toList = LET ++ DIG := by decide +kernel
  rw [e, List.mem_append]
def t_law_is_name (K : PySem.W.Frag) (E : XK) : TS := tSeq (tIfS (tOr (tTest (tOp (rEq1 K) (tCB (rLen1 K) (tCons (tVar 0) (tNil))) (tC (.int 0)))) (tOr (tTest (tOp rGt1 (tCB (rLen1 K) (tCons (tVar 0) (tNil))) (tC (.int 12)))) (tTest (tOp (rNotIn1 K) (tOp (rIx1 K) (tVar 0) (tC (.int 0))) (tC (.str "abcdefghijklmnopqrstuvwxyz")))))) (tRet (tC (.bl false))) (tNext)) (tSeq (tFor (iStr (tVar 0)) (gName 1) (tIfS (tTest (tOp (rNotIn1 K) (tVar 1) (tC (.str "abcdefghijklmnopqrstuvwxyz0123456789")))) (tRet (tC (.bl false))) (tNext))) (tRet (tC (.bl true))))
theorem pure_law_is_name {K : PySem.W.Frag} (κ : KF K) (vs : List V) (H : Hp) (Q : VK) (E : XK) (h : sp_law_is_name K vs H Q E) : t_law_is_name K E ⟨fun _ H' => Q .non H', Q, fun _ _ => False, fun _ _ => False⟩ (start [("text" : Str), "sign"] vs) H := by
  unfold t_law_is_name
  obtain ⟨z, rfl, hz, q⟩ := h
  refine x_start (σ' := [some _, none]) ?_ rfl
  have bad : nameW z.cps.toList = false → Q (.bl false) H := fun h => by rw [h] at q; exact q
  walk_at "sx"
  refine x_lenS hz ?_
  rw [str_len]
  walk_at "sx"
  refine x_if (fun h1 => ?_) (fun h1 => ?_)
  · walk_at "sx"
    exact bad (nameW_len (by omega))
  · walk_at "sx"
    refine x_lenS hz ?_
    rw [str_len]
    walk_at "sx"
    refine x_if (fun h2 => ?_) (fun h2 => ?_)
    · walk_at "sx"
      exact bad (nameW_len (by omega))
    · obtain ⟨c, hc⟩ := head_ex (cs := z.cps.toList) (by omega)
      walk_at "sx"
      refine x_ixS hz (at_zero hc) ?_
      walk_at "sx"
      refine x_ifn (fun h3 => ?_) (fun h3 => ?_)
      · walk_at "sx"
        refine bad ?_
        cases e : z.cps.toList with
        | nil => rw [e] at hc; cases hc
        | cons a r =>
          rw [e] at hc
          cases hc
          unfold nameW
          simp [show ¬ c ∈ LET from h3]
      · walk_at "sx"
        refine x_forS (fun i σ' H' => H' = H ∧ (∃ v, σ' = [some (.str z), v]) ∧ ∀ c ∈ z.cps.toList.take i, c ∈ LET ∨ c ∈ DIG) ⟨rfl, ⟨_, rfl⟩, fun c hc => by simp at hc⟩ ?_ ?_
        · rintro i c σ' H' hc ⟨rfl, ⟨v, rfl⟩, hd⟩
          have hc' := cps_get hc
          walk_at "sx"
          refine x_ifn (fun h4 => ?_) (fun h4 => ?_)
          · walk_at "sx"
            have h4 : ¬ (c ∈ LET ∨ c ∈ DIG) := fun h => h4 ((both_ld c).mpr h)
            exact bad (nameW_bad (mem_of_get hc') (fun h => h4 (.inl h)) (fun h => h4 (.inr h)))
          · walk_at "sx"
            refine ⟨rfl, ⟨_, rfl⟩, fun d hd' => ?_⟩
            rw [List.take_add_one, hc'] at hd'
            rcases List.mem_append.mp hd' with h | h
            · exact hd d h
            · cases List.mem_singleton.mp h
              exact (both_ld c).mp h4
        · rintro σ' H' ⟨rfl, ⟨v, rfl⟩, hd⟩
          rw [show z.cps.size = z.cps.toList.length by simp, List.take_length] at hd
          walk_at "sx"
          rw [nameW_hd (by omega) (by omega) hd hc, decide_eq_true (show c ∈ LET from h3)] at q
          exact q
/-! ### _law_signs: slots 0 signs -/
def SGN : Str := (" !\"#$&'()*+,-./0123456789:;<=>?@ABCDEFGHIJKLMNOPQRSTUVWXYZ[\\]^_`" : Str) ++ ("abcdefghijklmnopqrstuvwxyz{|}~\n" : Str)
def sp_law_signs (K : PySem.W.Frag) : Sp := fun vs H Q _ => ∃ (u : Unit), vs = [] ∧ Q (.str SGN) H
theorem sgn_len : SGN.cps.toList.length = 95 := by decide +kernel
def t_law_signs (K : PySem.W.Frag) (E : XK) : TS := tSeq (tAsg (tC (.str " !\"#$&'()*+,-./0123456789:;<=>?@ABCDEFGHIJKLMNOPQRSTUVWXYZ[\\]^_`")) (gName 0)) (tRet (tOp (rAdd1 K) (tVar 0) (tC (.str "abcdefghijklmnopqrstuvwxyz{|}~\n"))))
theorem pure_law_signs {K : PySem.W.Frag} (κ : KF K) (vs : List V) (H : Hp) (Q : VK) (E : XK) (h : sp_law_signs K vs H Q E) : t_law_signs K E ⟨fun _ H' => Q .non H', Q, fun _ _ => False, fun _ _ => False⟩ (start [("signs" : Str)] vs) H := by
  unfold t_law_signs
  obtain ⟨u, rfl, q⟩ := h
  refine x_start (σ' := [none]) ?_ rfl
  walk_at "sx"
  refine x_addS (by decide +kernel) ?_
  exact q
/-! ### _law_typed_line: slots 0 pool 1 signs 2 line 3 k 4 pick -/
def sp_law_typed_line (K : PySem.W.Frag) : Sp := fun vs H Q _ => ∃ (F : Hp → Prop) (cs : List (Addr × HO)) (k : Nat) (l : Addr) (a b c d : Int), vs = [.ref l] ∧ S F cs H ∧ cs[k]? = some (l, pl a b c d) ∧
  ∀ H' x y z u (w : Str), w.length ≤ 40 → S F (cs.set k (l, pl x y z u)) H' → Q (.str w) H'
def t_law_typed_line (K : PySem.W.Frag) (E : XK) : TS := tSeq (tAsg (tCall (sp_law_signs K) [] E0 (tNil)) (gName 1)) (tSeq (tAsg (tC (.str "")) (gName 2)) (tSeq (tFor (iRng1 (tCons (tCall (sp_law_draw K) [] E0 (tCons (tVar 0) (tCons (tC (.int 41)) (tNil)))) (tNil))) (gName 3) (tSeq (tAsg (tCall (sp_law_draw K) [] E0 (tCons (tVar 0) (tCons (tC (.int 141)) (tNil)))) (gName 4)) (tIfS (tTest (tOp rLt1 (tVar 4) (tC (.int 94)))) (tAsg (tOp (rAdd1 K) (tVar 2) (tOp (rIx1 K) (tVar 1) (tVar 4))) (gName 2)) (tAsg (tOp (rAdd1 K) (tVar 2) (tC (.str " "))) (gName 2))))) (tRet (tVar 2))))
theorem pure_law_typed_line {K : PySem.W.Frag} (κ : KF K) (vs : List V) (H : Hp) (Q : VK) (E : XK) (h : sp_law_typed_line K vs H Q E) : t_law_typed_line K E ⟨fun _ H' => Q .non H', Q, fun _ _ => False, fun _ _ => False⟩ (start [("pool" : Str), "signs", "line", "k", "pick"] vs) H := by
  unfold t_law_typed_line
  obtain ⟨F, cs, k, l, a, b, c, d, rfl, s, hk, q⟩ := h
  refine x_start (σ' := [some _, none, none, none, none]) ?_ rfl
  walk_at "sx"
  refine ⟨(), rfl, ?_⟩
  walk_at "sx"
  refine ⟨F, cs, k, l, _, _, _, _, _, rfl, s, hk, by decide, by decide, fun H1 x y z u r r0 r1 s => ?_⟩
  walk_at "sx"
  refine x_forR1 (n := r.toNat) (by omega) (by omega) (fun i σ' H' => ∃ (w : Str) (v1 v2 : Option V) (x y z u : Int), σ' = [some (.ref l), some (.str SGN), some (.str w), v1, v2] ∧ i ≤ r.toNat ∧ w.length ≤ i ∧ S F (cs.set k (l, pl x y z u)) H') ⟨_, _, _, _, _, _, _, rfl, Nat.zero_le _, by decide +kernel, s⟩ ?_ ?_
  · rintro i σ' H' hi ⟨w, v1, v2, x, y, z, u, rfl, _, hw, s⟩
    have hk2 : (cs.set k (l, pl x y z u))[k]? = some (l, pl x y z u) := by
      rw [List.getElem?_set_self (List.getElem?_eq_some_iff.mp hk).1]
    walk_at "sx"
    refine ⟨F, _, k, l, _, _, _, _, _, rfl, s, hk2, by decide, by decide, fun H2 x y z u n n0 n1 s => ?_⟩
    rw [List.set_set] at s
    walk_at "sx"
    refine x_if (fun h => ?_) (fun h => ?_)
    · obtain ⟨m, rfl⟩ : ∃ m : Nat, n = m := ⟨n.toNat, by omega⟩
      have hm : m < SGN.cps.toList.length := by rw [sgn_len]; omega
      walk_at "sx"
      refine x_ixS (by decide +kernel) (atI_nat (List.getElem?_eq_getElem hm)) ?_
      walk_at "sx"
      refine x_addS (sz5 (by show w.length + 1 ≤ 1000000; omega)) ?_
      walk_at "sx"
      exact ⟨_, _, _, _, _, _, _, rfl, hi, by rw [Str.length_append]; show w.length + 1 ≤ i + 1; omega, s⟩
    · walk_at "sx"
      refine x_addS (sz5 (by rw [show (" " : Str).length = 1 from by decide +kernel]; omega)) ?_
      walk_at "sx"
      exact ⟨_, _, _, _, _, _, _, rfl, hi, by rw [Str.length_append, show (" " : Str).length = 1 from by decide +kernel]; omega, s⟩
  · rintro σ' H' ⟨w, v1, v2, x, y, z, u, rfl, _, hw, s⟩
    walk_at "sx"
    exact q _ _ _ _ _ _ (by omega) s
/-! ### _law_typed_word: slots 0 pool 1 most 2 share 3 usual 4 signs 5 word 6 k -/
def sp_law_typed_word (K : PySem.W.Frag) : Sp := fun vs H Q _ => ∃ (F : Hp → Prop) (cs : List (Addr × HO)) (k : Nat) (l : Addr) (a b c d most share : Int) (use : Str), vs = [.ref l, .int most, .int share, .str use] ∧ S F cs H ∧ cs[k]? = some (l, pl a b c d) ∧
  0 ≤ most ∧ most ≤ 1000 ∧ 0 < share ∧ share ≤ 1000 ∧ 0 < use.length ∧ use.length ≤ 1000 ∧ ∀ H' x y z u (w : Str), w.length ≤ most.toNat → S F (cs.set k (l, pl x y z u)) H' → Q (.str w) H'
def t_law_typed_word (K : PySem.W.Frag) (E : XK) : TS := tSeq (tAsg (tCall (sp_law_signs K) [] E0 (tNil)) (gName 4)) (tSeq (tAsg (tC (.str "")) (gName 5)) (tSeq (tFor (iRng1 (tCons (tCall (sp_law_draw K) [] E0 (tCons (tVar 0) (tCons (tOp (rAdd1 K) (tVar 1) (tC (.int 1))) (tNil)))) (tNil))) (gName 6) (tIfS (tTest (tOp (rEq1 K) (tCall (sp_law_draw K) [] E0 (tCons (tVar 0) (tCons (tVar 2) (tNil)))) (tC (.int 1)))) (tAsg (tOp (rAdd1 K) (tVar 5) (tOp (rIx1 K) (tVar 4) (tCall (sp_law_draw K) [] E0 (tCons (tVar 0) (tCons (tC (.int 95)) (tNil)))))) (gName 5)) (tAsg (tOp (rAdd1 K) (tVar 5) (tOp (rIx1 K) (tVar 3) (tCall (sp_law_draw K) [] E0 (tCons (tVar 0) (tCons (tCB (rLen1 K) (tCons (tVar 3) (tNil))) (tNil)))))) (gName 5)))) (tRet (tVar 5))))
theorem pure_law_typed_word {K : PySem.W.Frag} (κ : KF K) (vs : List V) (H : Hp) (Q : VK) (E : XK) (h : sp_law_typed_word K vs H Q E) : t_law_typed_word K E ⟨fun _ H' => Q .non H', Q, fun _ _ => False, fun _ _ => False⟩ (start [("pool" : Str), "most", "share", "usual", "signs", "word", "k"] vs) H := by
  unfold t_law_typed_word
  obtain ⟨F, cs, k, l, a, b, c, d, most, share, use, rfl, s, hk, m0, m1, s0, s1, u0, u1, q⟩ := h
  refine x_start (σ' := [some _, some _, some _, some _, none, none, none]) ?_ rfl
  have b8 : (1001 : Int) < 2 ^ 8000 := by decide +kernel
  walk_at "sx"
  refine ⟨(), rfl, ?_⟩
  walk_at "sx"
  refine ⟨F, cs, k, l, _, _, _, _, _, rfl, s, hk, by omega, Int.lt_of_le_of_lt (by omega) b8, fun H1 x y z u r r0 r1 s => ?_⟩
  walk_at "sx"
  refine x_forR1 (n := r.toNat) (by omega) (by omega) (fun i σ' H' => ∃ (w : Str) (v1 : Option V) (x y z u : Int), σ' = [some (.ref l), some (.int most), some (.int share), some (.str use), some (.str SGN), some (.str w), v1] ∧ i ≤ r.toNat ∧ w.length ≤ i ∧ S F (cs.set k (l, pl x y z u)) H') ⟨_, _, _, _, _, _, rfl, Nat.zero_le _, by decide +kernel, s⟩ ?_ ?_
  · rintro i σ' H' hi ⟨w, v1, x, y, z, u, rfl, _, hw, s⟩
    have hk2 : ∀ x y z u, (cs.set k (l, pl x y z u))[k]? = some (l, pl x y z u) := fun x y z u => by
      rw [List.getElem?_set_self (List.getElem?_eq_some_iff.mp hk).1]
    walk_at "sx"
    refine ⟨F, _, k, l, _, _, _, _, _, rfl, s, hk2 _ _ _ _, by omega, Int.lt_of_le_of_lt (by omega) b8, fun H2 x y z u n n0 n1 s => ?_⟩
    rw [List.set_set] at s
    walk_at "sx"
    refine x_if (fun h => ?_) (fun h => ?_)
    · walk_at "sx"
      refine ⟨F, _, k, l, _, _, _, _, _, rfl, s, hk2 _ _ _ _, by decide, by decide, fun H2 x y z u n n0 n1 s => ?_⟩
      rw [List.set_set] at s
      obtain ⟨m, rfl⟩ : ∃ m : Nat, n = m := ⟨n.toNat, by omega⟩
      have hm : m < SGN.cps.toList.length := by rw [sgn_len]; omega
      walk_at "sx"
      refine x_ixS (by decide +kernel) (atI_nat (List.getElem?_eq_getElem hm)) ?_
      walk_at "sx"
      refine x_addS (sz5 (by show w.length + 1 ≤ 1000000; omega)) ?_
      walk_at "sx"
      exact ⟨_, _, _, _, _, _, rfl, hi, by rw [Str.length_append]; show w.length + 1 ≤ i + 1; omega, s⟩
    · walk_at "sx"
      refine x_lenS (sz5 (by omega)) ?_
      walk_at "sx"
      refine ⟨F, _, k, l, _, _, _, _, _, rfl, s, hk2 _ _ _ _, by omega, Int.lt_of_le_of_lt (by omega) b8, fun H2 x y z u n n0 n1 s => ?_⟩
      rw [List.set_set] at s
      obtain ⟨m, rfl⟩ : ∃ m : Nat, n = m := ⟨n.toNat, by omega⟩
      have hm : m < use.cps.toList.length := by rw [← str_len]; omega
      walk_at "sx"
      refine x_ixS (sz5 (by omega)) (atI_nat (List.getElem?_eq_getElem hm)) ?_
      walk_at "sx"
      refine x_addS (sz5 (by show w.length + 1 ≤ 1000000; omega)) ?_
      walk_at "sx"
      exact ⟨_, _, _, _, _, _, rfl, hi, by rw [Str.length_append]; show w.length + 1 ≤ i + 1; omega, s⟩
  · rintro σ' H' ⟨w, v1, x, y, z, u, rfl, _, hw, s⟩
    walk_at "sx"
    exact q _ _ _ _ _ _ (by omega) s
/-! ### _law_cut_at_spaces: slots 0 line 1 words 2 word 3 sign -/
/-- the words of a law: cut at the spaces, the empty ones left out -/
def cutG : List Nat → List Nat → List (List Nat)
  | w, [] => if w = [] then [] else [w]
  | w, c :: r => if c = 32 then (if w = [] then cutG [] r else w :: cutG [] r) else cutG (w ++ [c]) r
theorem cut_spl : ∀ (cs w : List Nat), (TL.spl [32] 0 w cs).filter (fun w => !decide (w = [])) = cutG w cs
  | [], w => by
    rw [TL.spl_nil]
    unfold cutG
    by_cases h : w = [] <;> simp [h]
  | c :: r, w => by
    have e : TL.pre [32] (c :: r) = decide (c = 32) := by
      unfold TL.pre
      simp only [List.length_cons, List.length_nil, List.take_succ_cons, List.take_zero]
      rw [Bool.eq_iff_iff]
      simp
    unfold cutG TL.spl
    rw [e]
    by_cases h : c = 32
    · rw [decide_eq_true h, if_pos rfl, if_pos h]
      have ih := cut_spl r []
      show (w :: TL.spl [32] 0 [] r).filter _ = _
      rw [List.filter_cons, ih]
      by_cases hw : w = [] <;> simp [hw]
    · rw [decide_eq_false h, if_neg Bool.false_ne_true, if_neg h]
      exact cut_spl r (w ++ [c])
def cutS (ws : List (List Nat)) (w : List Nat) : List (List Nat) := if w = [] then ws else ws ++ [w]
/-- state behind so many signs -/
def cutF (st : List (List Nat) × List Nat) (c : Nat) : List (List Nat) × List Nat := if c = 32 then (cutS st.1 st.2, []) else (st.1, st.2 ++ [c])
theorem cutF_all : ∀ (cs : List Nat) (st : List (List Nat) × List Nat), cutS (cs.foldl cutF st).1 (cs.foldl cutF st).2 = st.1 ++ cutG st.2 cs
  | [], st => by
    unfold cutG cutS
    by_cases h : st.2 = [] <;> simp [h]
  | c :: r, st => by
    rw [List.foldl_cons, cutF_all r]
    unfold cutF
    by_cases h : c = 32
    · rw [if_pos h]
      show cutS st.1 st.2 ++ cutG [] r = _
      conv => rhs; unfold cutG
      rw [if_pos h]
      unfold cutS
      by_cases hw : st.2 = [] <;> simp [hw]
    · rw [if_neg h]
      conv => rhs; unfold cutG
      rw [if_neg h]
theorem cutF_len : ∀ (cs : List Nat) (st : List (List Nat) × List Nat), (cs.foldl cutF st).1.length ≤ st.1.length + cs.length ∧ (cs.foldl cutF st).2.length ≤ st.2.length + cs.length
  | [], st => ⟨Nat.le_refl _, Nat.le_refl _⟩
  | c :: r, st => by
    rw [List.foldl_cons]
    have h := cutF_len r (cutF st c)
    have h1 : (cutF st c).1.length ≤ st.1.length + 1 ∧ (cutF st c).2.length ≤ st.2.length + 1 := by
      unfold cutF cutS
      split
      · split <;> simp
      · simp
    simp only [List.length_cons]
    omega
def sp_law_cut_at_spaces (K : PySem.W.Frag) : Sp := fun vs H Q _ => ∃ (z : Str), vs = [.str z] ∧ z.length ≤ 100000 ∧ ∀ p H', H p = none → Same H H' → H' p = some (.lst ((splW z.cps.toList).map txV)) → Q (.ref p) H'
def t_law_cut_at_spaces (K : PySem.W.Frag) (E : XK) : TS := tSeq (tAsg (tLst (tNil)) (gName 1)) (tSeq (tAsg (tC (.str "")) (gName 2)) (tSeq (tFor (iStr (tVar 0)) (gName 3) (tIfS (tTest (tOp (rNe1 K) (tVar 3) (tC (.str " ")))) (tAsg (tOp (rAdd1 K) (tVar 2) (tVar 3)) (gName 2)) (tIfS (tTest (tOp (rNe1 K) (tVar 2) (tC (.str "")))) (tSeq (tDrop (tBM K "list" rAppend (tVar 1) (tCons (tVar 2) (tNil)))) (tAsg (tC (.str "")) (gName 2))) (tNext)))) (C8.tCut (tIfS (tTest (tOp (rNe1 K) (tVar 2) (tC (.str "")))) (tDrop (tBM K "list" rAppend (tVar 1) (tCons (tVar 2) (tNil)))) (tNext)) (tRet (tVar 1)))))
theorem pure_law_cut_at_spaces {K : PySem.W.Frag} (κ : KF K) (vs : List V) (H : Hp) (Q : VK) (E : XK) (h : sp_law_cut_at_spaces K vs H Q E) : t_law_cut_at_spaces K E ⟨fun _ H' => Q .non H', Q, fun _ _ => False, fun _ _ => False⟩ (start [("line" : Str), "words", "word", "sign"] vs) H := by
  unfold t_law_cut_at_spaces
  obtain ⟨z, rfl, hz, q⟩ := h
  refine x_start (σ' := [some _, none, none, none]) ?_ rfl
  have s := start_s H
  have sp32 : ∀ c : Nat, (V.str ⟨#[c]⟩ = V.str " ") ↔ c = 32 := fun c => str_is (by decide +kernel)
  have e0 : ("" : Str) = ⟨#[]⟩ := by decide +kernel
  have nil : ∀ w : List Nat, (txV w = V.str "") ↔ w = [] := fun w => by rw [e0]; unfold txV; simp
  have cat : ∀ (w : List Nat) (c : Nat), (⟨w.toArray⟩ : Str) ++ (⟨#[c]⟩ : Str) = ⟨(w ++ [c]).toArray⟩ := fun w c => SX.S_cat w [c]
  rw [str_len] at hz
  walk_at "sx"
  refine x_newL (by simp) s fun l H1 s => ?_
  walk_at "sx"
  refine x_forS (fun i σ' H' => (∃ v, σ' = [some (.str z), some (.ref l), some (txV ((z.cps.toList.take i).foldl cutF ([], [])).2), v]) ∧ S (fun B => Same H B) [(l, .lst (((z.cps.toList.take i).foldl cutF ([], [])).1.map txV))] H') ⟨⟨_, by rw [List.take_zero]; rfl⟩, s⟩ ?_ ?_
  · rintro i c σ' H' hc ⟨⟨v, rfl⟩, s⟩
    have hc' := cps_get hc
    have hi := (List.getElem?_eq_some_iff.mp hc').1
    have step : (z.cps.toList.take (i + 1)).foldl cutF ([], []) = cutF ((z.cps.toList.take i).foldl cutF ([], [])) c := by
      rw [List.take_add_one, hc', Option.toList_some, List.foldl_append]
      rfl
    have len := cutF_len (z.cps.toList.take i) ([], [])
    rw [List.length_take] at len
    rw [step]
    generalize (z.cps.toList.take i).foldl cutF ([], []) = st at s len ⊢
    obtain ⟨ws, w⟩ := st
    simp only [List.length_nil, Nat.zero_add] at len
    walk_at "sx"
    refine x_neS rfl ?_
    walk_at "sx"
    refine x_ifn (fun h => ?_) (fun h => ?_)
    · have h := fun z => h ((sp32 c).mpr z)
      unfold txV
      walk_at "sx"
      refine x_addS (sz5 (by show w.toArray.size + 1 ≤ 1000000; rw [List.size_toArray]; omega)) ?_
      walk_at "sx"
      unfold cutF
      rw [if_neg h, cat]
      exact ⟨⟨_, rfl⟩, s⟩
    · have h := (sp32 c).mp h
      unfold cutF
      rw [if_pos h]
      walk_at "sx"
      refine x_neS rfl ?_
      walk_at "sx"
      refine x_ifn (fun h2 => ?_) (fun h2 => ?_)
      · have h2 : w ≠ [] := fun z => h2 ((nil w).mpr z)
        walk_at "sx"
        refine x_append s (k := 0) rfl (by rw [List.length_map]; show ws.length < sizeLine; exact big_sz (by omega)) fun H2 s => ?_
        walk_at "sx"
        unfold cutS
        rw [if_neg h2, List.map_append]
        exact ⟨⟨_, by rw [(nil []).mpr rfl]⟩, s⟩
      · have h2 := (nil w).mp h2
        walk_at "sx"
        unfold cutS
        rw [if_pos h2, h2]
        exact ⟨⟨_, rfl⟩, s⟩
  · rintro σ' H' ⟨⟨v, rfl⟩, s⟩
    rw [show z.cps.size = z.cps.toList.length by simp, List.take_length] at s ⊢
    have all := cutF_all z.cps.toList ([], [])
    have len := cutF_len z.cps.toList ([], [])
    generalize z.cps.toList.foldl cutF ([], []) = st at s all len ⊢
    obtain ⟨ws, w⟩ := st
    simp only [List.nil_append, List.length_nil, Nat.zero_add] at all len
    have fin : ∀ H2, S (fun B => Same H B) [(l, .lst ((cutS ws w).map txV))] H2 → Q (.ref l) H2 := fun H2 s => by
      refine q _ _ (s.fresh (List.mem_cons_self ..) fun B f => f) s.fact ?_
      have h := s.at 0 rfl
      rw [all, ← cut_spl] at h
      exact h
    refine x_cut (fun σ' H2 => (∃ v w, σ' = [some (.str z), some (.ref l), w, v]) ∧ S (fun B => Same H B) [(l, .lst ((cutS ws w).map txV))] H2) ?_ ?_
    · walk_at "sx"
      refine x_neS rfl ?_
      walk_at "sx"
      refine x_ifn (fun h2 => ?_) (fun h2 => ?_)
      · have h2 : w ≠ [] := fun z => h2 ((nil w).mpr z)
        walk_at "sx"
        refine x_append s (k := 0) rfl (by rw [List.length_map]; show ws.length < sizeLine; exact big_sz (by omega)) fun H2 s => ?_
        walk_at "sx"
        refine ⟨⟨_, _, rfl⟩, ?_⟩
        unfold cutS
        rw [if_neg h2, List.map_append]
        exact s
      · have h2 := (nil w).mp h2
        walk_at "sx"
        refine ⟨⟨_, _, rfl⟩, ?_⟩
        unfold cutS
        rw [if_pos h2]
        exact s
    · rintro σ' H2 ⟨⟨v, w, rfl⟩, s⟩
      walk_at "sx"
      exact fin _ s
/-! ### _law_number_due: slots 0 word 1 total 2 sign 3 figure -/
def sp_law_number_due (K : PySem.W.Frag) : Sp := fun vs H Q _ => ∃ (z : Str), vs = [.str z] ∧ z.length ≤ sizeLine ∧ Q (opV (numW z.cps.toList)) H
theorem find_digit (c : Nat) : Txt.find "0123456789" ⟨#[c]⟩ = if 48 ≤ c ∧ c ≤ 57 then ((c - 48 : Nat) : Int) else -1 := by
  by_cases h : 48 ≤ c ∧ c ≤ 57
  · rw [if_pos h]
    have key : ∀ k : Fin 10, Txt.find "0123456789" ⟨#[48 + k.val]⟩ = (k.val : Int) := by decide +kernel
    have := key ⟨c - 48, by omega⟩
    simp only [show 48 + (c - 48) = c by omega] at this
    exact this
  · rw [if_neg h]
    rcases PyProof.Rows.find_spec "0123456789" ⟨#[c]⟩ with e | ⟨i, e, hi, hs⟩
    · exact e
    · exfalso
      have h10 : ("0123456789" : Str).length = 10 := by decide +kernel
      have h1 : (⟨#[c]⟩ : Str).length = 1 := rfl
      rw [h10, h1] at hi
      rw [h1] at hs
      have key : ∀ k : Fin 10, PySem.Builtin.Str.strSub "0123456789" k.val (k.val + 1) = ⟨#[48 + k.val]⟩ := by decide +kernel
      have q := (key ⟨i, by omega⟩).symm.trans hs
      have : 48 + i = c := by simpa using q
      omega
def t_law_number_due (K : PySem.W.Frag) (E : XK) : TS := tSeq (tIfS (tOr (tTest (tOp rLt1 (tCB (rLen1 K) (tCons (tVar 0) (tNil))) (tC (.int 1)))) (tTest (tOp rGt1 (tCB (rLen1 K) (tCons (tVar 0) (tNil))) (tC (.int 5))))) (tRet (tC .non)) (tNext)) (tSeq (tAsg (tC (.int 0)) (gName 1)) (tSeq (tFor (iStr (tVar 0)) (gName 2) (tSeq (tAsg (tM1 rFind1 (tC (.str "0123456789")) (tVar 2)) (gName 3)) (tSeq (tIfS (tTest (tOp rLt1 (tVar 3) (tC (.int 0)))) (tRet (tC .non)) (tNext)) (tAsg (tOp (rAdd1 K) (tOp (rMul1 K) (tC (.int 10)) (tVar 1)) (tVar 3)) (gName 1))))) (tSeq (tIfS (tAnd (tTest (tOp (rEq1 K) (tOp (rIx1 K) (tVar 0) (tC (.int 0))) (tC (.str "0")))) (tTest (tOp rGt1 (tCB (rLen1 K) (tCons (tVar 0) (tNil))) (tC (.int 1))))) (tRet (tC .non)) (tNext)) (tRet (tVar 1)))))
theorem pure_law_number_due {K : PySem.W.Frag} (κ : KF K) (vs : List V) (H : Hp) (Q : VK) (E : XK) (h : sp_law_number_due K vs H Q E) : t_law_number_due K E ⟨fun _ H' => Q .non H', Q, fun _ _ => False, fun _ _ => False⟩ (start [("word" : Str), "total", "sign", "figure"] vs) H := by
  unfold t_law_number_due
  obtain ⟨z, rfl, hz, q⟩ := h
  refine x_start (σ' := [some _, none, none, none]) ?_ rfl
  have bad : numW z.cps.toList = none → Q .non H := fun h => by rw [h] at q; exact q
  walk_at "sx"
  refine x_lenS hz ?_
  rw [str_len]
  walk_at "sx"
  refine x_if (fun h1 => ?_) (fun h1 => ?_)
  · walk_at "sx"
    exact bad (if_pos (by omega))
  · walk_at "sx"
    refine x_lenS hz ?_
    rw [str_len]
    walk_at "sx"
    refine x_if (fun h2 => ?_) (fun h2 => ?_)
    · walk_at "sx"
      exact bad (if_pos (by omega))
    · have hn : ¬ (z.cps.toList.length < 1 ∨ 5 < z.cps.toList.length) := by omega
      walk_at "sx"
      refine x_forS (fun i σ' H' => H' = H ∧ (∃ v w, σ' = [some (.str z), some (.int (NumText.digitsVal (z.cps.toList.take i) : Nat)), v, w]) ∧ ∀ c ∈ z.cps.toList.take i, c ∈ DIG) ⟨rfl, ⟨_, _, rfl⟩, fun c hc => by simp at hc⟩ ?_ ?_
      · rintro i c σ' H' hc ⟨rfl, ⟨v, w, rfl⟩, hd⟩
        have hc' := cps_get hc
        walk_at "sx"
        refine ⟨_, _, rfl, rfl, ?_⟩
        rw [find_digit]
        walk_at "sx"
        refine x_if (fun h3 => ?_) (fun h3 => ?_)
        · walk_at "sx"
          have h3 : c ∉ DIG := fun h => by
            rw [if_pos ((dig_iff c).mp h)] at h3
            omega
          refine bad ?_
          unfold numW
          rw [if_neg hn, if_pos fun h => h3 (h c (mem_of_get hc'))]
        · have h4 : 48 ≤ c ∧ c ≤ 57 := by
            by_cases h : 48 ≤ c ∧ c ≤ 57
            · exact h
            · rw [if_neg h] at h3
              omega
          rw [if_pos h4]
          walk_at "sx"
          refine ⟨rfl, ⟨some (.str ⟨#[c]⟩), some (.int ((c - 48 : Nat) : Int)), ?_⟩, fun d hd' => ?_⟩
          · rw [List.take_add_one, hc']
            unfold NumText.digitsVal
            rw [Option.toList_some, List.foldl_append]
            simp only [List.foldl_cons, List.foldl_nil, Int.natCast_add, Int.natCast_mul]
            rw [Int.mul_comm]
            rfl
          · rw [List.take_add_one, hc'] at hd'
            rcases List.mem_append.mp hd' with h | h
            · exact hd d h
            · cases List.mem_singleton.mp h
              exact (dig_iff c).mpr h4
      · rintro σ' H' ⟨rfl, ⟨v, w, rfl⟩, hd⟩
        rw [show z.cps.size = z.cps.toList.length by simp, List.take_length] at hd ⊢
        obtain ⟨c, hc⟩ := head_ex (cs := z.cps.toList) (by omega)
        walk_at "sx"
        refine x_ixS hz (at_zero hc) ?_
        walk_at "sx"
        refine x_eqS rfl ?_
        walk_at "sx"
        have fin : ¬ (c = 48 ∧ 1 < z.cps.toList.length) → Q (.int (NumText.digitsVal z.cps.toList : Nat)) H' := fun hne => by
          have e : numW z.cps.toList = some ((NumText.digitsVal z.cps.toList : Nat) : Int) := by
            unfold numW
            rw [if_neg hn, if_neg (fun h => h hd), hc, if_neg fun h => hne ⟨Option.some.inj h.1, h.2⟩]
          rw [e] at q
          exact q
        refine x_if (fun h4 => ?_) (fun h4 => ?_)
        · have h4 : c = 48 := (str_is (by decide +kernel)).mp h4
          walk_at "sx"
          refine x_lenS hz ?_
          rw [str_len]
          walk_at "sx"
          refine x_if (fun h5 => ?_) (fun h5 => ?_)
          · walk_at "sx"
            refine bad ?_
            unfold numW
            rw [if_neg hn, if_neg (fun h => h hd), if_pos ⟨by rw [hc, h4], by omega⟩]
          · walk_at "sx"
            exact fin fun h => h5 (by omega)
        · have h4 : c ≠ 48 := fun h => h4 ((str_is (by decide +kernel)).mpr h)
          walk_at "sx"
          exact fin fun h => h4 h.1
/-! ### _law_first_part: slots 0 script 1 pool 2 line 3 words 4 told 5 others 6 k 7 word -/
def sp_law_first_part (K : PySem.W.Frag) : Sp := fun vs H Q _ => ∃ (a : Addr) (ns : List Int), vs = [.ref a] ∧ SqL K H a (ns.map V.int) ∧ ∀ H', Same H H' → Q (.bl true) H'
theorem cut_len : ∀ (cs w : List Nat), (cutG w cs).length ≤ cs.length + 1 ∧ ∀ v ∈ cutG w cs, v.length ≤ w.length + cs.length
  | [], w => by
    unfold cutG
    by_cases h : w = [] <;> simp [h]
  | c :: r, w => by
    unfold cutG
    have h0 := cut_len r []
    have h1 := cut_len r (w ++ [c])
    split
    · split
      · exact ⟨by have := h0.1; simp only [List.length_cons]; omega, fun v hv => by have := h0.2 v hv; simp only [List.length_cons, List.length_nil] at this ⊢; omega⟩
      · refine ⟨by have := h0.1; simp only [List.length_cons]; omega, fun v hv => ?_⟩
        rcases List.mem_cons.mp hv with rfl | hv
        · simp only [List.length_cons]; omega
        · have := h0.2 v hv
          simp only [List.length_cons, List.length_nil] at this ⊢
          omega
    · refine ⟨by have := h1.1; simp only [List.length_cons]; omega, fun v hv => ?_⟩
      have := h1.2 v hv
      simp only [List.length_append, List.length_cons, List.length_nil] at this ⊢
      omega
theorem dp_strs {K : PySem.W.Frag} {H : Hp} : ∀ l : List (List Nat), DpAll K H (l.map txV) (l.map fun w => .str ⟨w.toArray⟩)
  | [] => .nil
  | w :: r => .cons (.str _) (dp_strs r)
theorem fit_strs (l : List (List Nat)) (h : l.length < 2 ^ 30) : Fit 4 (.list (l.map fun w => .str ⟨w.toArray⟩)) := by
  refine ⟨by rw [List.length_map]; exact h, fun d hd => ?_⟩
  obtain ⟨w, _, rfl⟩ := List.mem_map.mp hd
  trivial
def WordV (v : V) : Prop := ∃ z : Str, v = .str z ∧ z.length ≤ 100000
def t_law_first_part (K : PySem.W.Frag) (E : XK) : TS := tSeq (tAsg (tCall (sp_law_pool K) [] E0 (tCons (tVar 0) (tCons (tC (.int 0)) (tNil)))) (gName 1)) (tSeq (tAsg (tCall (sp_law_typed_line K) [] E0 (tCons (tVar 1) (tNil))) (gName 2)) (C8.tCut (tIfS (tTest (tOp (rEq1 K) (tCall (sp_law_draw K) [] E0 (tCons (tVar 1) (tCons (tC (.int 16)) (tNil)))) (tC (.int 15)))) (tAsg (tOp (rMul1 K) (tVar 2) (tOp (rAdd1 K) (tC (.int 2)) (tCall (sp_law_draw K) [] E0 (tCons (tVar 1) (tCons (tC (.int 50)) (tNil)))))) (gName 2)) (tNext)) (tSeq (tAsg (tCall (sp_law_cut_at_spaces K) [] E0 (tCons (tVar 2) (tNil))) (gName 3)) (tSeq (tAsg (tCall (sp_words_of K) [] E0 (tCons (tVar 2) (tNil))) (gName 4)) (tSeq (tIfS (tNot (tTr K (tCall (sp_law_same 4 K) [] E0 (tCons (tVar 4) (tCons (tVar 3) (tNil)))))) (tRet (tC (.bl false))) (tNext)) (tSeq (tDrop (tBM K "list" rAppend (tVar 4) (tCons (tC (.str "0")) (tNil)))) (tSeq (tIfS (tNot (tTr K (tCall (sp_law_same 4 K) [] E0 (tCons (tCall (sp_words_of K) [] E0 (tCons (tVar 2) (tNil))) (tCons (tVar 3) (tNil)))))) (tRet (tC (.bl false))) (tNext)) (tSeq (tAsg (tLst (tCons (tC (.str "0")) (tCons (tC (.str "00")) (tCons (tC (.str "9")) (tCons (tC (.str "99999")) (tCons (tC (.str "100000")) (tCons (tC (.str "")) (tNil)))))))) (gName 5)) (tSeq (tAsg (tCall (sp_law_pool K) [] E0 (tCons (tVar 0) (tCons (tC (.int 1)) (tNil)))) (gName 1)) (tSeq (tFor (iRng1 (tCons (tC (.int 3)) (tNil))) (gName 6) (tDrop (tBM K "list" rAppend (tVar 5) (tCons (tCall (sp_law_typed_word K) [] E0 (tCons (tVar 1) (tCons (tC (.int 7)) (tCons (tC (.int 12)) (tCons (tC (.str "0123456789")) (tNil)))))) (tNil))))) (tSeq (tAsg (tCall (sp_law_pool K) [] E0 (tCons (tVar 0) (tCons (tC (.int 2)) (tNil)))) (gName 1)) (tSeq (tFor (iRng1 (tCons (tC (.int 2)) (tNil))) (gName 6) (tDrop (tBM K "list" rAppend (tVar 5) (tCons (tCall (sp_law_typed_word K) [] E0 (tCons (tVar 1) (tCons (tC (.int 14)) (tCons (tC (.int 16)) (tCons (tC (.str "abcdefghijklmnopqrstuvwxyz0123456789")) (tNil)))))) (tNil))))) (tSeq (tFor (iSq K (tOp (rAdd1 K) (tVar 3) (tVar 5))) (gName 7) (tSeq (tIfS (tNot (tTr K (tCall (sp_law_same 4 K) [] E0 (tCons (tCall (sp_number_of K) [] E0 (tCons (tVar 7) (tNil))) (tCons (tCall (sp_law_number_due K) [] E0 (tCons (tVar 7) (tNil))) (tNil)))))) (tRet (tC (.bl false))) (tNext)) (tIfS (tNot (tTr K (tCall (sp_law_same 4 K) [] E0 (tCons (tCall (sp_is_name K) [] E0 (tCons (tVar 7) (tNil))) (tCons (tCall (sp_law_is_name K) [] E0 (tCons (tVar 7) (tNil))) (tNil)))))) (tRet (tC (.bl false))) (tNext)))) (tRet (tC (.bl true))))))))))))))))
theorem pure_law_first_part {K : PySem.W.Frag} (κ : KF K) (vs : List V) (H : Hp) (Q : VK) (E : XK) (h : sp_law_first_part K vs H Q E) : t_law_first_part K E ⟨fun _ H' => Q .non H', Q, fun _ _ => False, fun _ _ => False⟩ (start [("script" : Str), "pool", "line", "words", "told", "others", "k", "word"] vs) H := by
  unfold t_law_first_part
  obtain ⟨a, ns, rfl, ha, q⟩ := h
  refine x_start (σ' := [some _, none, none, none, none, none, none, none]) ?_ rfl
  have s : S (fun B => Same H B ∧ SqL K B a (ns.map V.int)) [] H := S.of ⟨Same.refl H, ha⟩
  walk_at "sx"
  refine ⟨a, ns, 0, rfl, ha, by decide, fun p H1 x y z u hp e1 h1 => ?_⟩
  have s := s.new hp e1 h1
  walk_at "sx"
  refine ⟨_, _, 0, p, _, _, _, _, rfl, s, rfl, fun H2 x y z u w hw s => ?_⟩
  walk_at "sx"
  refine x_cut (fun σ' H' => ∃ (w : Str) (x y z u : Int), σ' = [some (.ref a), some (.ref p), some (.str w), none, none, none, none, none] ∧ w.length ≤ 3000 ∧ S (fun B => Same H B ∧ SqL K B a (ns.map V.int)) [(p, pl x y z u)] H') ?_ ?_
  · walk_at "sx"
    refine ⟨_, _, 0, p, _, _, _, _, _, rfl, s, rfl, by decide, by decide +kernel, fun H3 x y z u t t0 t1 s => ?_⟩
    walk_at "sx"
    refine x_if (fun h => ?_) (fun h => ?_)
    · walk_at "sx"
      refine ⟨_, _, 0, p, _, _, _, _, _, rfl, s, rfl, by decide, by decide +kernel, fun H3 x y z u t t0 t1 s => ?_⟩
      walk_at "sx"
      refine x_mulS (mulok (by omega) (by omega) (by omega)) ?_
      walk_at "sx"
      refine ⟨_, _, _, _, _, rfl, ?_, s⟩
      have h1 := PyProof.Rows.len_mul_leN (x := w) (n := 2 + t) (L := 40) (N := 60) hw (by omega)
      omega
    · walk_at "sx"
      exact ⟨_, _, _, _, _, rfl, by omega, s⟩
  rintro σ' H3 ⟨w, x, y, z, u, rfl, hw, s⟩
  have s := s.sub (List.nil_sublist _)
  have hc := (cut_len w.cps.toList [])
  rw [← cut_spl] at hc
  have hwl : w.cps.toList.length ≤ 3000 := by rw [← str_len]; exact hw
  have hfit := fit_strs (splW w.cps.toList) (by have := hc.1; show (List.filter _ _).length < _; omega)
  walk_at "sx"
  refine ⟨w, rfl, by omega, fun l1 H4 hl e4 h4 => ?_⟩
  have s := s.new hl e4 h4
  walk_at "sx"
  refine ⟨w, rfl, by omega, fun l2 H5 hl e5 h5 => ?_⟩
  have s := s.new hl e5 h5
  walk_at "sx"
  refine ⟨_, _, _, rfl, .lst (sq_l (s.at 0 rfl)) (dp_strs _), .lst (sq_l (s.at 1 rfl)) (dp_strs _), hfit, ?_⟩
  walk_at "sx"
  refine x_append s (k := 0) rfl (big_sz (by rw [List.length_map]; have := hc.1; show (List.filter _ _).length < _; omega)) fun H6 s => ?_
  walk_at "sx"
  refine ⟨w, rfl, by omega, fun l3 H7 hl e7 h7 => ?_⟩
  have s := s.new hl e7 h7
  walk_at "sx"
  refine ⟨_, _, _, rfl, .lst (sq_l (s.at 0 rfl)) (dp_strs _), .lst (sq_l (s.at 2 rfl)) (dp_strs _), hfit, ?_⟩
  walk_at "sx"
  refine x_newL (by simp) s fun l4 H8 s => ?_
  walk_at "sx"
  refine ⟨a, ns, 1, rfl, s.fact.2, by decide, fun p2 H9 x y z u hp e9 h9 => ?_⟩
  have s := s.new hp e9 h9
  have s : S (fun B => Same H B ∧ SqL K B a (ns.map V.int)) [(p2, pl x y z u), (l4, .lst [.str "0", .str "00", .str "9", .str "99999", .str "100000", .str ""]), (l1, .lst ((splW w.cps.toList).map txV))] H9 :=
    s.sub (.cons₂ _ (.cons₂ _ (.cons _ (.cons _ (.cons₂ _ (List.nil_sublist _))))))
  have w0 : ∀ v ∈ ([.str "0", .str "00", .str "9", .str "99999", .str "100000", .str ""] : List V), WordV v := fun v hv => by
    simp only [List.mem_cons, List.not_mem_nil, or_false] at hv
    rcases hv with rfl | rfl | rfl | rfl | rfl | rfl <;> exact ⟨_, rfl, by decide +kernel⟩
  walk_at "sx"
  refine x_forR1 (n := 3) rfl (by decide) (fun i σ' H' => ∃ (xs : List V) (v : Option V) (x y z u : Int), σ' = [some (.ref a), some (.ref p2), some (.str w), some (.ref l1), some (.ref l2), some (.ref l4), v, none] ∧ xs.length ≤ 6 + i ∧ i ≤ 3 ∧ (∀ v ∈ xs, WordV v) ∧
    S (fun B => Same H B ∧ SqL K B a (ns.map V.int)) [(p2, pl x y z u), (l4, .lst xs), (l1, .lst ((splW w.cps.toList).map txV))] H') ⟨_, _, _, _, _, _, rfl, by simp, by decide, w0, s⟩ ?_ ?_
  · rintro i σ' H' hi ⟨xs, v, x, y, z, u, rfl, hl, _, hx, s⟩
    walk_at "sx"
    refine ⟨_, _, 0, p2, _, _, _, _, _, _, _, rfl, s, rfl, by decide, by decide, by decide, by decide, by decide +kernel, by decide +kernel, fun H' x y z u w2 hw2 s => ?_⟩
    walk_at "sx"
    refine x_append s (k := 1) rfl (big_sz (by omega)) fun H' s => ?_
    walk_at "sx"
    refine ⟨_, _, _, _, _, _, rfl, by simp; omega, by omega, fun v hv => ?_, s⟩
    rcases List.mem_append.mp hv with h | h
    · exact hx v h
    · exact ⟨w2, by simpa using h, by have : (7 : Int).toNat = 7 := rfl; omega⟩
  rintro σ' H10 ⟨xs, v, x, y, z, u, rfl, hl, _, hx, s⟩
  walk_at "sx"
  refine ⟨a, ns, 2, rfl, s.fact.2, by decide, fun p3 H11 x y z u hp e9 h9 => ?_⟩
  have s := (s.new hp e9 h9).sub (.cons₂ _ (.cons _ (List.Sublist.refl _)))
  walk_at "sx"
  refine x_forR1 (n := 2) rfl (by decide) (fun i σ' H' => ∃ (xs : List V) (v : Option V) (x y z u : Int), σ' = [some (.ref a), some (.ref p3), some (.str w), some (.ref l1), some (.ref l2), some (.ref l4), v, none] ∧ xs.length ≤ 9 + i ∧ i ≤ 2 ∧ (∀ v ∈ xs, WordV v) ∧
    S (fun B => Same H B ∧ SqL K B a (ns.map V.int)) [(p3, pl x y z u), (l4, .lst xs), (l1, .lst ((splW w.cps.toList).map txV))] H') ⟨_, _, _, _, _, _, rfl, by omega, by decide, hx, s⟩ ?_ ?_
  · rintro i σ' H' hi ⟨xs, v, x, y, z, u, rfl, hl, _, hx, s⟩
    walk_at "sx"
    refine ⟨_, _, 0, p3, _, _, _, _, _, _, _, rfl, s, rfl, by decide, by decide, by decide, by decide, by decide +kernel, by decide +kernel, fun H' x y z u w2 hw2 s => ?_⟩
    walk_at "sx"
    refine x_append s (k := 1) rfl (big_sz (by omega)) fun H' s => ?_
    walk_at "sx"
    refine ⟨_, _, _, _, _, _, rfl, by simp; omega, by omega, fun v hv => ?_, s⟩
    rcases List.mem_append.mp hv with h | h
    · exact hx v h
    · exact ⟨w2, by simpa using h, by have : (14 : Int).toNat = 14 := rfl; omega⟩
  rintro σ' H12 ⟨xs, v, x, y, z, u, rfl, hl, _, hx, s⟩
  have hcl : ((splW w.cps.toList).map txV).length ≤ 3001 := by rw [List.length_map]; have := hc.1; show (List.filter _ _).length ≤ _; omega
  have hall : ∀ v ∈ (splW w.cps.toList).map txV ++ xs, WordV v := fun v hv => by
    rcases List.mem_append.mp hv with h | h
    · obtain ⟨t, ht, rfl⟩ := List.mem_map.mp h
      have := hc.2 t ht
      simp only [List.length_nil] at this
      exact ⟨_, rfl, by rw [str_len]; show t.length ≤ _; omega⟩
    · exact hx v h
  walk_at "sx"
  refine x_addL s (.tail _ (.tail _ (.head _))) (.tail _ (.head _)) (sz5 (by omega)) fun r H13 s => ?_
  have s := (s.freezeL (K := K)).sub (List.nil_sublist _)
  refine x_forB (b := true) s.fact.1 (fun i σ' H' => (∃ v w2, σ' = [some (.ref a), some (.ref p3), some (.str w), some (.ref l1), some (.ref l2), some (.ref l4), v, w2]) ∧ S (fun B => SqB true K B r ((splW w.cps.toList).map txV ++ xs) ∧ Same H B ∧ SqL K B a (ns.map V.int)) [] H') ⟨⟨_, _, rfl⟩, s⟩ (fun i σ' H' h => h.2.fact.1) ?_ ?_
  · rintro i v σ' H' hv ⟨⟨v1, v2, rfl⟩, s⟩
    obtain ⟨t, rfl, ht⟩ := hall v (mem_of_get hv)
    have hs : t.length ≤ sizeLine := sz5 (by omega)
    walk_at "sx"
    refine ⟨t, rfl, hs, ?_⟩
    walk_at "sx"
    refine ⟨t, rfl, hs, ?_⟩
    walk_at "sx"
    have dpo : ∀ o : Option Int, Dp K H' (opV o) (match o with | none => .none | some i => .int i) := fun o => by
      cases o
      · exact .non
      · exact .int _
    refine ⟨_, _, _, rfl, dpo _, dpo _, by cases numW t.cps.toList <;> trivial, ?_⟩
    walk_at "sx"
    refine ⟨t, rfl, hs, ?_⟩
    walk_at "sx"
    refine ⟨t, rfl, hs, ?_⟩
    walk_at "sx"
    refine ⟨_, _, _, rfl, .bl _, .bl _, trivial, ?_⟩
    walk_at "sx"
    exact ⟨⟨_, _, rfl⟩, s⟩
  · rintro σ' H' ⟨⟨v1, v2, rfl⟩, s⟩
    walk_at "sx"
    exact q _ s.fact.2.1
/-! ### _law_bits: slots 0 value 1 count 2 k -/
def bitB (v : Int) (i : Nat) : Int := Builtin.bitAnd (v / 2 ^ i) 1
def sp_law_bits (K : PySem.W.Frag) : Sp := fun vs H Q _ => ∃ (v : Int) (n : Nat), vs = [.int v, .int (n : Int)] ∧ n < 1000000 ∧ ∀ p H', H p = none → Same H H' → H' p = some (.lst (((List.range n).map (bitB v)).map V.int)) → Q (.ref p) H'
theorem filterMap_some {α β : Type} (f : α → β) (l : List α) : l.filterMap (fun x => some (f x)) = l.map f := by
  induction l with
  | nil => rfl
  | cons a r ih => simp
def t_law_bits (K : PySem.W.Frag) (E : XK) : TS := tRet (tLc (iRng1 (tCons (tVar 1) (tNil))) (gName 2) (tYes) (tOp rBitAnd1 (tOp rShr1 (tVar 0) (tVar 2)) (tC (.int 1))) [2])
theorem pure_law_bits {K : PySem.W.Frag} (κ : KF K) (vs : List V) (H : Hp) (Q : VK) (E : XK) (h : sp_law_bits K vs H Q E) : t_law_bits K E ⟨fun _ H' => Q .non H', Q, fun _ _ => False, fun _ _ => False⟩ (start [("value" : Str), "count", "k"] vs) H := by
  unfold t_law_bits
  obtain ⟨v, n, rfl, hn, q⟩ := h
  refine x_start (σ' := [some _, some _, none]) ?_ rfl
  have s := start_s H
  walk_at "sx"
  refine x_lcFR (fun i => some (.int (bitB v i))) (n := n) rfl (by omega) s ?_ ?_
  · intro D acc i H' Put Skip hi put skip s
    walk_at "wipe"
    walk_at "sx"
    refine ⟨rfl, ?_⟩
    walk_at "sx"
    refine x_shr (by omega) ?_
    walk_at "sx"
    exact put _ _ (by rw [Int.toNat_natCast]; rfl) s
  · intro D H' s
    refine q _ _ (s.fresh (List.mem_cons_self ..) fun B f => f) s.fact ?_
    have h := s.at 0 rfl
    rw [filterMap_some] at h
    rw [List.map_map]
    exact h
/-! ### _law_number: slots 0 bits 1 total 2 k -/
def sp_law_number (K : PySem.W.Frag) : Sp := fun vs H Q _ => ∃ (b : Bool) (a : Addr) (xs : List Int), vs = [.ref a] ∧ SqB b K H a (xs.map V.int) ∧ (∀ x ∈ xs, 0 ≤ x ∧ x ≤ 1) ∧ xs.length < 1000000 ∧ Q (.int (numOf xs)) H
theorem cshl_bit {x : Int} {i : Nat} (h : 0 ≤ x ∧ x ≤ 1) (hi : i < 1000000) : CShl x i := by
  have h1 : x = 0 ∨ x = 1 := by omega
  refine ⟨by omega, ?_⟩
  have b : Builtin.Int.intBits x ≤ 1 := by rcases h1 with rfl | rfl <;> decide +kernel
  omega
def t_law_number (K : PySem.W.Frag) (E : XK) : TS := tSeq (tAsg (tC (.int 0)) (gName 1)) (tSeq (tFor (iRng1 (tCons (tCB (rLen1 K) (tCons (tVar 0) (tNil))) (tNil))) (gName 2) (tAsg (tOp (rAdd1 K) (tVar 1) (tOp rShl1 (tOp (rIx1 K) (tVar 0) (tVar 2)) (tVar 2))) (gName 1))) (tRet (tVar 1)))
theorem pure_law_number {K : PySem.W.Frag} (κ : KF K) (vs : List V) (H : Hp) (Q : VK) (E : XK) (h : sp_law_number K vs H Q E) : t_law_number K E ⟨fun _ H' => Q .non H', Q, fun _ _ => False, fun _ _ => False⟩ (start [("bits" : Str), "total", "k"] vs) H := by
  unfold t_law_number
  obtain ⟨b, a, xs, rfl, hs, hx, hl, q⟩ := h
  refine x_start (σ' := [some _, none, none]) ?_ rfl
  walk_at "sx"
  refine x_lenL hs.or ?_
  walk_at "sx"
  refine x_forR1 (n := xs.length) (by rw [List.length_map]) (by omega) (fun i σ' H' => H' = H ∧ ∃ v, σ' = [some (.ref a), some (.int (numOf (xs.take i))), v]) ⟨rfl, _, rfl⟩ ?_ ?_
  · rintro i σ' H' hi ⟨rfl, v, rfl⟩
    have e : xs[i]? = some xs[i] := List.getElem?_eq_getElem hi
    have e2 : (xs.map V.int)[i]? = some (.int xs[i]) := by rw [List.getElem?_map, e]; rfl
    have hb := hx _ (mem_of_get e)
    have ix : ∀ {Q : VK}, Q (.int xs[i]) H' → rIx1 K (.ref a) (.int (i : Nat)) H' Q := fun q => by
      cases b
      · exact x_ixT hs (atI_nat e2) q
      · exact x_ixL hs (atI_nat e2) q
    walk_at "sx"
    refine ix ?_
    walk_at "sx"
    refine x_shl (cshl_bit hb (by omega)) ?_
    walk_at "sx"
    refine ⟨rfl, some (.int (i : Nat)), ?_⟩
    rw [numOf_take e, Int.toNat_natCast, Int.mul_comm (2 ^ i)]
  · rintro σ' H' ⟨rfl, v, rfl⟩
    walk_at "sx"
    rw [List.take_length]
    exact q
/-! ### _law_fixed_right: slots 0 table 1 answers 2 x 3 y 4 pairs 5 one 6 pair 7 two 8 both -/
def AR4 (K : PySem.W.Frag) (B : Hp) (l : Addr) (xs : List V) : Prop := SqB true K B l xs ∧ ∀ (i : Nat) (x : V), xs[i]? = some x → ∃ a, x = .ref a ∧ SqT K B a [.int (arOf i).1, .int (arOf i).2]
instance {K : PySem.W.Frag} {l : Addr} {xs : List V} : Mono (fun B => AR4 K B l xs) := ⟨fun B B' e h => ⟨Mono.up (F := fun B => SqB true K B l xs) B B' e h.1, fun i x hx => by
  obtain ⟨a, e1, q⟩ := h.2 i x hx
  exact ⟨a, e1, Same.seqT e q⟩⟩⟩
theorem x_pairs {σ : L2.St} {H : Hp} {Q : VK} {K : PySem.W.Frag} {F : Hp → Prop} {cs : List (Addr × HO)} (s : S F cs H) (k : ∀ l xs H', xs.length = 4 → S (fun B => AR4 K B l xs ∧ F B) cs H' → Q (.ref l) H') :
    tLst (tCons (tTup (tCons (tC (.int 0)) (tCons (tC (.int 0)) (tNil)))) (tCons (tTup (tCons (tC (.int 0)) (tCons (tC (.int 1)) (tNil)))) (tCons (tTup (tCons (tC (.int 1)) (tCons (tC (.int 0)) (tNil)))) (tCons (tTup (tCons (tC (.int 1)) (tCons (tC (.int 1)) (tNil)))) (tNil))))) σ H Q := by
  have mF := s.mono
  walk_at "sx"
  refine x_newT (by simp) s fun p0 H1 s => ?_
  walk_at "sx"
  refine x_newT (by simp) s fun p1 H1 s => ?_
  walk_at "sx"
  refine x_newT (by simp) s fun p2 H1 s => ?_
  walk_at "sx"
  refine x_newT (by simp) s fun p3 H1 s => ?_
  walk_at "sx"
  refine x_newL (by simp) s fun l H1 s => ?_
  have s := ((((s.freezeL (K := K)).freezeT (K := K)).freezeT (K := K)).freezeT (K := K)).freezeT (K := K)
  refine k l [.ref p0, .ref p1, .ref p2, .ref p3] H1 rfl (s.imp (fun B f => ?_) ?_)
  · refine ⟨⟨f.2.2.2.2.1, fun i x hx => ?_⟩, f.2.2.2.2.2⟩
    match i, hx with
    | 0, rfl => exact ⟨p0, rfl, f.1⟩
    | 1, rfl => exact ⟨p1, rfl, f.2.1⟩
    | 2, rfl => exact ⟨p2, rfl, f.2.2.1⟩
    | 3, rfl => exact ⟨p3, rfl, f.2.2.2.1⟩
  · infer_instance
theorem bitB_bit (t : Int) (i : Nat) (t0 : 0 ≤ t) (t1 : t ≤ 15) (hi : i < 4) : 0 ≤ bitB t i ∧ bitB t i ≤ 1 := by
  have key : ∀ a : Fin 16, ∀ b : Fin 4, 0 ≤ bitB a.val b.val ∧ bitB a.val b.val ≤ 1 := by decide +kernel
  obtain ⟨a, rfl⟩ : ∃ a : Nat, t = a := ⟨t.toNat, by omega⟩
  exact key ⟨a, by omega⟩ ⟨i, hi⟩
theorem fx_law (t : Int) (x y : Nat) (t0 : 0 ≤ t) (t1 : t ≤ 15) (hx : x < 2) (hy : y < 2) :
    numOf [bitB t (2 * x), bitB t (2 * x + 1), bitB t (2 * x), bitB t (2 * x + 1)] = fxT t (some (x : Int)) none ∧
    numOf [bitB t (2 * 0 + y), bitB t (2 * 0 + y), bitB t (2 * 1 + y), bitB t (2 * 1 + y)] = fxT t none (some (y : Int)) ∧
    15 * bitB t (2 * x + y) = fxT t (some (x : Int)) (some (y : Int)) := by
  have key : ∀ a : Fin 16, ∀ x y : Fin 2, numOf [bitB a.val (2 * x.val), bitB a.val (2 * x.val + 1), bitB a.val (2 * x.val), bitB a.val (2 * x.val + 1)] = fxT a.val (some (x.val : Int)) none ∧
    numOf [bitB a.val (2 * 0 + y.val), bitB a.val (2 * 0 + y.val), bitB a.val (2 * 1 + y.val), bitB a.val (2 * 1 + y.val)] = fxT a.val none (some (y.val : Int)) ∧
    15 * bitB a.val (2 * x.val + y.val) = fxT a.val (some (x.val : Int)) (some (y.val : Int)) := by decide +kernel
  obtain ⟨a, rfl⟩ : ∃ a : Nat, t = a := ⟨t.toNat, by omega⟩
  exact key ⟨a, by omega⟩ ⟨x, hx⟩ ⟨y, hy⟩
def sp_law_fixed_right (K : PySem.W.Frag) : Sp := fun vs H Q _ => ∃ (a : Addr) (t x y : Int), vs = [.int t, .ref a, .int x, .int y] ∧ SqL K H a (((List.range 4).map (bitB t)).map V.int) ∧ 0 ≤ t ∧ t ≤ 15 ∧ (0 ≤ x ∧ x ≤ 1) ∧ (0 ≤ y ∧ y ≤ 1) ∧ ∀ H', Same H H' → Q (.bl true) H'
def t_law_fixed_right (K : PySem.W.Frag) (E : XK) : TS := tSeq (tAsg (tLst (tCons (tTup (tCons (tC (.int 0)) (tCons (tC (.int 0)) (tNil)))) (tCons (tTup (tCons (tC (.int 0)) (tCons (tC (.int 1)) (tNil)))) (tCons (tTup (tCons (tC (.int 1)) (tCons (tC (.int 0)) (tNil)))) (tCons (tTup (tCons (tC (.int 1)) (tCons (tC (.int 1)) (tNil)))) (tNil)))))) (gName 4)) (tSeq (tAsg (tCall (sp_law_number K) [] E0 (tCons (tLc (iSq K (tVar 4)) (gName 6) (tYes) (tOp (rIx1 K) (tVar 1) (tOp (rAdd1 K) (tOp (rMul1 K) (tC (.int 2)) (tVar 2)) (tOp (rIx1 K) (tVar 6) (tC (.int 1))))) [6]) (tNil))) (gName 5)) (tSeq (tAsg (tCall (sp_law_number K) [] E0 (tCons (tLc (iSq K (tVar 4)) (gName 6) (tYes) (tOp (rIx1 K) (tVar 1) (tOp (rAdd1 K) (tOp (rMul1 K) (tC (.int 2)) (tOp (rIx1 K) (tVar 6) (tC (.int 0)))) (tVar 3))) [6]) (tNil))) (gName 7)) (tSeq (tIfS (tOr (tNot (tTr K (tCall (sp_law_same 4 K) [] E0 (tCons (tCallN 1 1 (sp_fixed K) g_kb_fixed_1_first E0 (tCons (tVar 0) (tNil)) (tCons (tVar 2) (tNil))) (tCons (tVar 5) (tNil)))))) (tNot (tTr K (tCall (sp_law_same 4 K) [] E0 (tCons (tCallN 1 2 (sp_fixed K) g_kb_fixed_1_first_second E0 (tCons (tVar 0) (tNil)) (tCons (tVar 2) (tCons (tC .non) (tNil)))) (tCons (tVar 5) (tNil))))))) (tRet (tC (.bl false))) (tNext)) (tSeq (tIfS (tOr (tNot (tTr K (tCall (sp_law_same 4 K) [] E0 (tCons (tCallN 1 1 (sp_fixed K) g_kb_fixed_1_second E0 (tCons (tVar 0) (tNil)) (tCons (tVar 3) (tNil))) (tCons (tVar 7) (tNil)))))) (tNot (tTr K (tCall (sp_law_same 4 K) [] E0 (tCons (tCallN 1 2 (sp_fixed K) g_kb_fixed_1_first_second E0 (tCons (tVar 0) (tNil)) (tCons (tC .non) (tCons (tVar 3) (tNil)))) (tCons (tVar 7) (tNil))))))) (tRet (tC (.bl false))) (tNext)) (tSeq (tAsg (tOp (rMul1 K) (tC (.int 15)) (tOp (rIx1 K) (tVar 1) (tOp (rAdd1 K) (tOp (rMul1 K) (tC (.int 2)) (tVar 2)) (tVar 3)))) (gName 8)) (tSeq (tIfS (tNot (tTr K (tCall (sp_law_same 4 K) [] E0 (tCons (tCallN 1 2 (sp_fixed K) g_kb_fixed_1_first_second E0 (tCons (tVar 0) (tNil)) (tCons (tVar 2) (tCons (tVar 3) (tNil)))) (tCons (tVar 8) (tNil)))))) (tRet (tC (.bl false))) (tNext)) (tRet (tCall (sp_law_same 4 K) [] E0 (tCons (tCallN 1 2 (sp_fixed K) g_kb_fixed_1_second_first E0 (tCons (tVar 0) (tNil)) (tCons (tVar 3) (tCons (tVar 2) (tNil)))) (tCons (tVar 8) (tNil)))))))))))
theorem pure_law_fixed_right {K : PySem.W.Frag} (κ : KF K) (vs : List V) (H : Hp) (Q : VK) (E : XK) (h : sp_law_fixed_right K vs H Q E) : t_law_fixed_right K E ⟨fun _ H' => Q .non H', Q, fun _ _ => False, fun _ _ => False⟩ (start [("table" : Str), "answers", "x", "y", "pairs", "one", "pair", "two", "both"] vs) H := by
  unfold t_law_fixed_right
  obtain ⟨a, t, x, y, rfl, ha, t0, t1, hx, hy, q⟩ := h
  refine x_start (σ' := [some _, some _, some _, some _, none, none, none, none, none]) ?_ rfl
  have s : S (fun B => Same H B ∧ SqL K B a (((List.range 4).map (bitB t)).map V.int)) [] H := S.of ⟨Same.refl H, ha⟩
  refine x_seq (x_asg (x_pairs (K := K) s fun l xs H1 hl s => ?_))
  have bits : ∀ i : Nat, i < 4 → 0 ≤ bitB t i ∧ bitB t i ≤ 1 := fun i hi => bitB_bit t i t0 t1 hi
  -- an item of the answers
  have ans : ∀ {H : Hp} {Q : VK} {i : Nat}, SqL K H a (((List.range 4).map (bitB t)).map V.int) → i < 4 → Q (.int (bitB t i)) H → rIx1 K (.ref a) (.int (i : Int)) H Q := fun h hi q => x_ixL h (atI_nat (by simp [hi])) q
  obtain ⟨x, rfl⟩ : ∃ n : Nat, x = n := ⟨x.toNat, by omega⟩
  obtain ⟨y, rfl⟩ : ∃ n : Nat, y = n := ⟨y.toNat, by omega⟩
  walk_at "sx"
  refine x_lcFI (b := true) (fun i => some (.int (bitB t (2 * x + (arOf i).2.toNat)))) s (fun B f => f.1.1) hl (by decide) ?_ ?_
  · intro D acc i v H Put Skip hv put skip s
    obtain ⟨p, rfl, hp⟩ := s.fact.1.2 i v hv
    have hb := ar_bit i
    walk_at "wipe"
    walk_at "sx"
    refine ⟨rfl, ?_⟩
    walk_at "sx"
    refine x_ixT hp rfl ?_
    walk_at "sx"
    have e : (2 * (x : Int) + (arOf i).2) = ((2 * x + (arOf i).2.toNat : Nat) : Int) := by omega
    rw [e]
    exact ans s.fact.2.2 (by omega) (put _ _ rfl s)
  intro D H2 s
  walk_at "sx"
  refine ⟨true, D, [bitB t (2 * x), bitB t (2 * x + 1), bitB t (2 * x), bitB t (2 * x + 1)], rfl, sq_l (s.at 0 rfl), fun z hz => ?_, by simp, ?_⟩
  · simp only [List.mem_cons, List.not_mem_nil, or_false] at hz
    rcases hz with rfl | rfl | rfl | rfl <;> exact bits _ (by omega)
  have s := s.drop1
  walk_at "sx"
  refine x_lcFI (b := true) (fun i => some (.int (bitB t (2 * (arOf i).1.toNat + y)))) s (fun B f => f.1.1) hl (by decide) ?_ ?_
  · intro D acc i v H Put Skip hv put skip s
    obtain ⟨p, rfl, hp⟩ := s.fact.1.2 i v hv
    have hb := ar_bit i
    walk_at "wipe"
    walk_at "sx"
    refine ⟨rfl, ?_⟩
    walk_at "sx"
    refine x_ixT hp rfl ?_
    walk_at "sx"
    have e : (2 * (arOf i).1 + (y : Int)) = ((2 * (arOf i).1.toNat + y : Nat) : Int) := by omega
    rw [e]
    exact ans s.fact.2.2 (by omega) (put _ _ rfl s)
  intro D H2 s
  walk_at "sx"
  refine ⟨true, D, [bitB t (2 * 0 + y), bitB t (2 * 0 + y), bitB t (2 * 1 + y), bitB t (2 * 1 + y)], rfl, sq_l (s.at 0 rfl), fun z hz => ?_, by simp, ?_⟩
  · simp only [List.mem_cons, List.not_mem_nil, or_false] at hz
    rcases hz with rfl | rfl | rfl | rfl <;> exact bits _ (by omega)
  have s := s.drop1
  obtain ⟨m1, m2, m3⟩ := fx_law t x y t0 t1 (by omega) (by omega)
  have bx : BitO (some (x : Int)) := fun i h => by cases h; exact hx
  have byy : BitO (some (y : Int)) := fun i h => by cases h; exact hy
  have bn : BitO none := fun i h => nomatch h
  walk_at "sx"
  refine ⟨rfl, rfl, t, some (x : Int), none, rfl, t0, t1, bx, bn, fun H2 e2 => ?_⟩
  have s := s.same e2
  walk_at "sx"
  refine ⟨_, _, _, rfl, .int _, by rw [m1]; exact .int _, trivial, ?_⟩
  walk_at "sx"
  refine ⟨rfl, rfl, t, some (x : Int), none, rfl, t0, t1, bx, bn, fun H2 e2 => ?_⟩
  have s := s.same e2
  walk_at "sx"
  refine ⟨_, _, _, rfl, .int _, by rw [m1]; exact .int _, trivial, ?_⟩
  walk_at "sx"
  refine ⟨rfl, rfl, t, none, some (y : Int), rfl, t0, t1, bn, byy, fun H2 e2 => ?_⟩
  have s := s.same e2
  walk_at "sx"
  refine ⟨_, _, _, rfl, .int _, by rw [m2]; exact .int _, trivial, ?_⟩
  walk_at "sx"
  refine ⟨rfl, rfl, t, none, some (y : Int), rfl, t0, t1, bn, byy, fun H2 e2 => ?_⟩
  have s := s.same e2
  walk_at "sx"
  refine ⟨_, _, _, rfl, .int _, by rw [m2]; exact .int _, trivial, ?_⟩
  walk_at "sx"
  have e : (2 * (x : Int) + (y : Int)) = ((2 * x + y : Nat) : Int) := by omega
  rw [e]
  refine ans s.fact.2.2 (by omega) ?_
  walk_at "sx"
  refine ⟨rfl, rfl, t, some (x : Int), some (y : Int), rfl, t0, t1, bx, byy, fun H2 e2 => ?_⟩
  have s := s.same e2
  walk_at "sx"
  refine ⟨_, _, _, rfl, .int _, by rw [m3]; exact .int _, trivial, ?_⟩
  walk_at "sx"
  refine ⟨rfl, rfl, t, some (x : Int), some (y : Int), rfl, t0, t1, bx, byy, fun H2 e2 => ?_⟩
  have s := s.same e2
  walk_at "sx"
  exact ⟨_, _, _, rfl, .int _, by rw [m3]; exact .int _, trivial, q _ s.fact.2.1⟩
/-! ### _law_right: slots 0 table 1 answers 2 pairs 3 pair 4 x 5 y 6 turned 7 other 8 on_x 9 on_y -/
theorem right_law (t : Int) (t0 : 0 ≤ t) (t1 : t ≤ 15) :
    numOf [bitB t 0, bitB t 2, bitB t 1, bitB t 3] = swT t ∧ fxT t none none = t ∧
    (deT t).1 = ((!decide (bitB t 0 = bitB t 2)) || (!decide (bitB t 1 = bitB t 3))) ∧ (deT t).2 = ((!decide (bitB t 0 = bitB t 1)) || (!decide (bitB t 2 = bitB t 3))) := by
  have key : ∀ a : Fin 16, numOf [bitB a.val 0, bitB a.val 2, bitB a.val 1, bitB a.val 3] = swT a.val ∧ fxT a.val none none = a.val ∧
    (deT a.val).1 = ((!decide (bitB a.val 0 = bitB a.val 2)) || (!decide (bitB a.val 1 = bitB a.val 3))) ∧ (deT a.val).2 = ((!decide (bitB a.val 0 = bitB a.val 1)) || (!decide (bitB a.val 2 = bitB a.val 3))) := by decide +kernel
  obtain ⟨a, rfl⟩ : ∃ a : Nat, t = a := ⟨t.toNat, by omega⟩
  exact key ⟨a, by omega⟩
def tuI (f s i : Nat) : Nat := (2 * Builtin.bitXor (arOf i).1 f + Builtin.bitXor (arOf i).2 s).toNat
theorem pair_law (t : Int) (x y : Nat) (t0 : 0 ≤ t) (t1 : t ≤ 15) (hx : x < 2) (hy : y < 2) : lk t x y = bitB t (2 * x + y) ∧ numOf [bitB t (tuI x y 0), bitB t (tuI x y 1), bitB t (tuI x y 2), bitB t (tuI x y 3)] = ivT t x y := by
  have key : ∀ a : Fin 16, ∀ x y : Fin 2, lk a.val x.val y.val = bitB a.val (2 * x.val + y.val) ∧ numOf [bitB a.val (tuI x.val y.val 0), bitB a.val (tuI x.val y.val 1), bitB a.val (tuI x.val y.val 2), bitB a.val (tuI x.val y.val 3)] = ivT a.val x.val y.val := by decide +kernel
  obtain ⟨a, rfl⟩ : ∃ a : Nat, t = a := ⟨t.toNat, by omega⟩
  exact key ⟨a, by omega⟩ ⟨x, hx⟩ ⟨y, hy⟩
def sp_law_right (K : PySem.W.Frag) : Sp := fun vs H Q _ => ∃ (t : Int), vs = [.int t] ∧ 0 ≤ t ∧ t ≤ 15 ∧ ∀ H', Same H H' → Q (.bl true) H'
def t_law_right (K : PySem.W.Frag) (E : XK) : TS := tSeq (tAsg (tCall (sp_law_bits K) [] E0 (tCons (tVar 0) (tCons (tC (.int 4)) (tNil)))) (gName 1)) (tSeq (tAsg (tLst (tCons (tTup (tCons (tC (.int 0)) (tCons (tC (.int 0)) (tNil)))) (tCons (tTup (tCons (tC (.int 0)) (tCons (tC (.int 1)) (tNil)))) (tCons (tTup (tCons (tC (.int 1)) (tCons (tC (.int 0)) (tNil)))) (tCons (tTup (tCons (tC (.int 1)) (tCons (tC (.int 1)) (tNil)))) (tNil)))))) (gName 2)) (tSeq (tFor (iSq K (tVar 2)) (gName 3) (tSeq (tAsg (tOp (rIx1 K) (tVar 3) (tC (.int 0))) (gName 4)) (tSeq (tAsg (tOp (rIx1 K) (tVar 3) (tC (.int 1))) (gName 5)) (tSeq (tIfS (tNot (tTr K (tCall (sp_law_same 4 K) [] E0 (tCons (tCall (sp_lookup K) [] E0 (tCons (tVar 0) (tCons (tVar 4) (tCons (tVar 5) (tNil))))) (tCons (tOp (rIx1 K) (tVar 1) (tOp (rAdd1 K) (tOp (rMul1 K) (tC (.int 2)) (tVar 4)) (tVar 5))) (tNil)))))) (tRet (tC (.bl false))) (tNext)) (tSeq (tAsg (tLc (iSq K (tVar 2)) (gName 7) (tYes) (tOp (rIx1 K) (tVar 1) (tOp (rAdd1 K) (tOp (rMul1 K) (tC (.int 2)) (tOp rBitXor1 (tOp (rIx1 K) (tVar 7) (tC (.int 0))) (tVar 4))) (tOp rBitXor1 (tOp (rIx1 K) (tVar 7) (tC (.int 1))) (tVar 5)))) [7]) (gName 6)) (tSeq (tIfS (tNot (tTr K (tCall (sp_law_same 4 K) [] E0 (tCons (tCall (sp_inverted K) [] E0 (tCons (tVar 0) (tCons (tVar 4) (tCons (tVar 5) (tNil))))) (tCons (tCall (sp_law_number K) [] E0 (tCons (tVar 6) (tNil))) (tNil)))))) (tRet (tC (.bl false))) (tNext)) (tIfS (tNot (tTr K (tCall (sp_law_fixed_right K) [] E0 (tCons (tVar 0) (tCons (tVar 1) (tCons (tVar 4) (tCons (tVar 5) (tNil)))))))) (tRet (tC (.bl false))) (tNext)))))))) (tSeq (tIfS (tNot (tTr K (tCall (sp_law_same 4 K) [] E0 (tCons (tCall (sp_swapped K) [] E0 (tCons (tVar 0) (tNil))) (tCons (tCall (sp_law_number K) [] E0 (tCons (tLc (iSq K (tVar 2)) (gName 3) (tYes) (tOp (rIx1 K) (tVar 1) (tOp (rAdd1 K) (tOp (rMul1 K) (tC (.int 2)) (tOp (rIx1 K) (tVar 3) (tC (.int 1)))) (tOp (rIx1 K) (tVar 3) (tC (.int 0))))) [3]) (tNil))) (tNil)))))) (tRet (tC (.bl false))) (tNext)) (tSeq (tAsg (tOrV (tOp (rNe1 K) (tOp (rIx1 K) (tVar 1) (tC (.int 0))) (tOp (rIx1 K) (tVar 1) (tC (.int 2)))) (tOp (rNe1 K) (tOp (rIx1 K) (tVar 1) (tC (.int 1))) (tOp (rIx1 K) (tVar 1) (tC (.int 3))))) (gName 8)) (tSeq (tAsg (tOrV (tOp (rNe1 K) (tOp (rIx1 K) (tVar 1) (tC (.int 0))) (tOp (rIx1 K) (tVar 1) (tC (.int 1)))) (tOp (rNe1 K) (tOp (rIx1 K) (tVar 1) (tC (.int 2))) (tOp (rIx1 K) (tVar 1) (tC (.int 3))))) (gName 9)) (tRet (tAndV (tCall (sp_law_same 4 K) [] E0 (tCons (tCall (sp_fixed K) [.non, .non] E0 (tCons (tVar 0) (tNil))) (tCons (tVar 0) (tNil)))) (tCall (sp_law_same 4 K) [] E0 (tCons (tCall (sp_depends K) [] E0 (tCons (tVar 0) (tNil))) (tCons (tTup (tCons (tVar 8) (tCons (tVar 9) (tNil)))) (tNil)))))))))))
theorem pure_law_right {K : PySem.W.Frag} (κ : KF K) (vs : List V) (H : Hp) (Q : VK) (E : XK) (h : sp_law_right K vs H Q E) : t_law_right K E ⟨fun _ H' => Q .non H', Q, fun _ _ => False, fun _ _ => False⟩ (start [("table" : Str), "answers", "pairs", "pair", "x", "y", "turned", "other", "on_x", "on_y"] vs) H := by
  unfold t_law_right
  obtain ⟨t, rfl, t0, t1, q⟩ := h
  refine x_start (σ' := [some _, none, none, none, none, none, none, none, none, none]) ?_ rfl
  have s := start_s H
  walk_at "sx"
  refine ⟨t, 4, rfl, by decide, fun a H1 ha e h1 => ?_⟩
  have s : S (fun B => SqB true K B a (((List.range 4).map (bitB t)).map V.int) ∧ Same H B) [] H1 := (s.new ha e h1).freezeL
  walk_at "gn"
  refine x_seq (x_asg (x_pairs (K := K) s fun l xs H1 hl s => ?_))
  have bits : ∀ i : Nat, i < 4 → 0 ≤ bitB t i ∧ bitB t i ≤ 1 := fun i hi => bitB_bit t i t0 t1 hi
  have ans : ∀ {H : Hp} {Q : VK} {i : Nat}, SqL K H a (((List.range 4).map (bitB t)).map V.int) → i < 4 → Q (.int (bitB t i)) H → rIx1 K (.ref a) (.int (i : Int)) H Q := fun h hi q => x_ixL h (atI_nat (by simp [hi])) q
  walk_at "sx"
  refine x_forB (b := true) s.fact.1.1 (fun i σ' H' => (∃ v3 v4 v5 v6 v7 v8 v9, σ' = [some (.int t), some (.ref a), some (.ref l), v3, v4, v5, v6, v7, v8, v9]) ∧ S (fun B => AR4 K B l xs ∧ SqB true K B a (((List.range 4).map (bitB t)).map V.int) ∧ Same H B) [] H') ⟨⟨_, _, _, _, _, _, _, rfl⟩, s⟩ (fun i σ' H' h => h.2.fact.1.1) ?_ ?_
  · rintro i v σ' H' hv ⟨⟨v3, v4, v5, v6, v7, v8, v9, rfl⟩, s⟩
    obtain ⟨p, rfl, hp⟩ := s.fact.1.2 i v hv
    obtain ⟨x0, x1, y0, y1⟩ := ar_bit i
    obtain ⟨x, ex⟩ : ∃ n : Nat, (arOf i).1 = n := ⟨(arOf i).1.toNat, by omega⟩
    obtain ⟨y, ey⟩ : ∃ n : Nat, (arOf i).2 = n := ⟨(arOf i).2.toNat, by omega⟩
    rw [ex] at x0 x1 hp
    rw [ey] at y0 y1 hp
    obtain ⟨m1, m2⟩ := pair_law t x y t0 t1 (by omega) (by omega)
    walk_at "sx"
    refine x_ixT hp rfl ?_
    walk_at "sx"
    refine x_ixT hp rfl ?_
    walk_at "sx"
    refine ⟨t, x, y, rfl, x0, y0, ?_⟩
    walk_at "sx"
    have e : (2 * (x : Int) + (y : Int)) = ((2 * x + y : Nat) : Int) := by omega
    rw [e]
    refine ans s.fact.2.1 (by omega) ?_
    walk_at "sx"
    refine ⟨_, _, _, rfl, .int _, by rw [m1]; exact .int _, trivial, ?_⟩
    walk_at "sx"
    refine x_lcFI (b := true) (fun i => some (.int (bitB t (tuI x y i)))) s (fun B f => f.1.1) hl (by decide) ?_ ?_
    · intro D acc i v H Put Skip hv put skip s
      obtain ⟨p, rfl, hp⟩ := s.fact.1.2 i v hv
      have hb := ar_bit i
      walk_at "wipe"
      walk_at "sx"
      refine ⟨rfl, ?_⟩
      walk_at "sx"
      refine x_ixT hp rfl ?_
      walk_at "sx"
      refine x_ixT hp rfl ?_
      walk_at "sx"
      have b1 := xor_bit ⟨hb.1, hb.2.1⟩ ⟨x0, x1⟩
      have b2 := xor_bit hb.2.2 ⟨y0, y1⟩
      have e : (2 * Builtin.bitXor (arOf i).1 x + Builtin.bitXor (arOf i).2 y) = ((tuI x y i : Nat) : Int) := by unfold tuI; omega
      rw [e]
      exact ans s.fact.2.1 (by unfold tuI; omega) (put _ _ rfl s)
    intro D H2 s
    have tub : ∀ i, tuI x y i < 4 := fun i => by
      have hb := ar_bit i
      have b1 := xor_bit ⟨hb.1, hb.2.1⟩ ⟨x0, x1⟩
      have b2 := xor_bit hb.2.2 ⟨y0, y1⟩
      unfold tuI
      omega
    walk_at "sx"
    refine ⟨t, x, y, rfl, t0, t1, ⟨x0, x1⟩, ⟨y0, y1⟩, fun H3 e3 => ?_⟩
    have s := s.same e3
    walk_at "sx"
    refine ⟨true, D, [bitB t (tuI x y 0), bitB t (tuI x y 1), bitB t (tuI x y 2), bitB t (tuI x y 3)], rfl, sq_l (s.at 0 rfl), fun z hz => ?_, by simp, ?_⟩
    · simp only [List.mem_cons, List.not_mem_nil, or_false] at hz
      rcases hz with rfl | rfl | rfl | rfl <;> exact bits _ (tub _)
    walk_at "sx"
    refine ⟨_, _, _, rfl, .int _, by rw [m2]; exact .int _, trivial, ?_⟩
    have s := s.drop1
    walk_at "sx"
    refine ⟨a, t, x, y, rfl, s.fact.2.1, t0, t1, ⟨x0, x1⟩, ⟨y0, y1⟩, fun H4 e4 => ?_⟩
    have s := s.same e4
    walk_at "sx"
    exact ⟨⟨_, _, _, _, _, _, _, rfl⟩, s⟩
  · rintro σ' H' ⟨⟨v3, v4, v5, v6, v7, v8, v9, rfl⟩, s⟩
    obtain ⟨m1, m2, m3, m4⟩ := right_law t t0 t1
    walk_at "sx"
    refine ⟨t, rfl, t0, t1, fun H2 e2 => ?_⟩
    have s := s.same e2
    walk_at "sx"
    refine x_lcFI (b := true) (fun i => some (.int (bitB t (2 * (arOf i).2.toNat + (arOf i).1.toNat)))) s (fun B f => f.1.1) hl (by decide) ?_ ?_
    · intro D acc i v H Put Skip hv put skip s
      obtain ⟨p, rfl, hp⟩ := s.fact.1.2 i v hv
      have hb := ar_bit i
      walk_at "wipe"
      walk_at "sx"
      refine ⟨rfl, ?_⟩
      walk_at "sx"
      refine x_ixT hp rfl ?_
      walk_at "sx"
      refine x_ixT hp rfl ?_
      walk_at "sx"
      have e : (2 * (arOf i).2 + (arOf i).1) = ((2 * (arOf i).2.toNat + (arOf i).1.toNat : Nat) : Int) := by omega
      rw [e]
      exact ans s.fact.2.1 (by omega) (put _ _ rfl s)
    intro D H2 s
    walk_at "sx"
    refine ⟨true, D, [bitB t 0, bitB t 2, bitB t 1, bitB t 3], rfl, sq_l (s.at 0 rfl), fun z hz => ?_, by simp, ?_⟩
    · simp only [List.mem_cons, List.not_mem_nil, or_false] at hz
      rcases hz with rfl | rfl | rfl | rfl <;> exact bits _ (by decide)
    walk_at "sx"
    refine ⟨_, _, _, rfl, .int _, by rw [m1]; exact .int _, trivial, ?_⟩
    have s := s.drop1
    have an : ∀ (i : Nat), i < 4 → ∀ (Q : VK), Q (.int (bitB t i)) H2 → rIx1 K (.ref a) (.int (i : Int)) H2 Q := fun i hi Q q => ans s.fact.2.1 hi q
    walk_at "sx"
    refine an 0 (by decide) _ ?_
    walk_at "sx"
    refine an 2 (by decide) _ ?_
    walk_at "sx"
    refine x_orJ (B := !decide (bitB t 1 = bitB t 3)) (fun R h => ?_) ?_
    · walk_at "sx"
      refine an 1 (by decide) _ ?_
      walk_at "sx"
      refine an 3 (by decide) _ ?_
      walk_at "sx"
      exact h
    walk_at "sx"
    refine an 0 (by decide) _ ?_
    walk_at "sx"
    refine an 1 (by decide) _ ?_
    walk_at "sx"
    refine x_orJ (B := !decide (bitB t 2 = bitB t 3)) (fun R h => ?_) ?_
    · walk_at "sx"
      refine an 2 (by decide) _ ?_
      walk_at "sx"
      refine an 3 (by decide) _ ?_
      walk_at "sx"
      exact h
    walk_at "sx"
    refine ⟨t, none, none, rfl, t0, t1, (fun i h => nomatch h), (fun i h => nomatch h), fun H3 e3 => ?_⟩
    have s := s.same e3
    walk_at "sx"
    refine ⟨_, _, _, rfl, .int _, by rw [m2]; exact .int _, trivial, ?_⟩
    walk_at "sx"
    refine ⟨t, rfl, t0, t1, fun d H4 hd e4 h4 => ?_⟩
    have s := s.new hd e4 h4
    walk_at "sx"
    refine x_newT (by simp) s fun d2 H5 s => ?_
    walk_at "sx"
    refine ⟨_, _, .tuple [.bool (deT t).1, .bool (deT t).2], rfl, .tup (sq_t (s.at 1 rfl)) (.cons (.bl _) (.cons (.bl _) .nil)), ?_, ⟨by show 2 < 2 ^ 30; decide, fun d hd => ?_⟩, q _ s.fact.2.2⟩
    · have h := s.at 0 rfl
      rw [← m3, ← m4] at h
      exact .tup (sq_t h) (.cons (.bl _) (.cons (.bl _) .nil))
    · simp only [List.mem_cons, List.not_mem_nil, or_false] at hd
      rcases hd with rfl | rfl <;> trivial
/-! ### _law_second_part: slots 0 script 1 pool 2 tables 3 k 4 table -/
def sp_law_second_part (K : PySem.W.Frag) : Sp := fun vs H Q _ => ∃ (a : Addr) (ns : List Int), vs = [.ref a] ∧ SqL K H a (ns.map V.int) ∧ ∀ H', Same H H' → Q (.bl true) H'
def t_law_second_part (K : PySem.W.Frag) (E : XK) : TS := tSeq (tAsg (tCall (sp_law_pool K) [] E0 (tCons (tVar 0) (tCons (tC (.int 0)) (tNil)))) (gName 1)) (tSeq (tAsg (tLst (tCons (tCall (sp_law_draw K) [] E0 (tCons (tVar 1) (tCons (tC (.int 16)) (tNil)))) (tNil))) (gName 2)) (tSeq (tFor (iRng1 (tCons (tCall (sp_law_draw K) [] E0 (tCons (tVar 1) (tCons (tC (.int 6)) (tNil)))) (tNil))) (gName 3) (tDrop (tBM K "list" rAppend (tVar 2) (tCons (tCall (sp_law_draw K) [] E0 (tCons (tVar 1) (tCons (tC (.int 16)) (tNil)))) (tNil))))) (tSeq (tFor (iSq K (tOp (rAdd1 K) (tVar 2) (tSl (rSlL K) (tVar 2) (tNoPart) (tPart (tC (.int 1)))))) (gName 4) (tIfS (tNot (tTr K (tCall (sp_law_right K) [] E0 (tCons (tVar 4) (tNil))))) (tRet (tC (.bl false))) (tNext))) (tRet (tC (.bl true))))))
theorem pure_law_second_part {K : PySem.W.Frag} (κ : KF K) (vs : List V) (H : Hp) (Q : VK) (E : XK) (h : sp_law_second_part K vs H Q E) : t_law_second_part K E ⟨fun _ H' => Q .non H', Q, fun _ _ => False, fun _ _ => False⟩ (start [("script" : Str), "pool", "tables", "k", "table"] vs) H := by
  unfold t_law_second_part
  obtain ⟨a, ns, rfl, ha, q⟩ := h
  refine x_start (σ' := [some _, none, none, none, none]) ?_ rfl
  have s := start_s H
  have set : ∀ {l : Addr} {x y z u : Int} {r : List (Addr × HO)}, ((l, pl x y z u) :: r)[0]? = some (l, pl x y z u) := rfl
  walk_at "sx"
  refine ⟨a, ns, 0, rfl, ha, by decide, fun p H1 x y z u hp e1 h1 => ?_⟩
  have s := s.new hp e1 h1
  walk_at "sx"
  refine ⟨_, _, 0, p, _, _, _, _, _, rfl, s, rfl, by decide, by decide +kernel, fun H2 x y z u t t0 t1 s => ?_⟩
  walk_at "sx"
  refine x_newL (by simp) s fun l H3 s => ?_
  walk_at "sx"
  refine ⟨_, _, 1, p, _, _, _, _, _, rfl, s, rfl, by decide, by decide +kernel, fun H4 x y z u n n0 n1 s => ?_⟩
  walk_at "sx"
  refine x_forR1 (n := n.toNat) (by omega) (by omega) (fun i σ' H' => ∃ (ts : List V) (v : Option V) (x y z u : Int), σ' = [some (.ref a), some (.ref p), some (.ref l), v, none] ∧ ts.length ≤ i + 1 ∧ i ≤ 6 ∧ (∀ v ∈ ts, ∃ t : Int, v = .int t ∧ 0 ≤ t ∧ t ≤ 15) ∧ S (fun B => Same H B) [(l, .lst ts), (p, pl x y z u)] H')
    ⟨_, _, _, _, _, _, rfl, by simp, by omega, fun v hv => ⟨t, by simpa using hv, t0, by omega⟩, s⟩ ?_ ?_
  · rintro i σ' H' hi ⟨ts, v, x, y, z, u, rfl, hl, h6, ht, s⟩
    walk_at "sx"
    refine ⟨_, _, 1, p, _, _, _, _, _, rfl, s, rfl, by decide, by decide +kernel, fun H5 x y z u t t0 t1 s => ?_⟩
    walk_at "sx"
    refine x_append s (k := 0) rfl (big_sz (by omega)) fun H6 s => ?_
    walk_at "sx"
    refine ⟨_, _, _, _, _, _, rfl, by simp; omega, by omega, fun v hv => ?_, s⟩
    rcases List.mem_append.mp hv with h | h
    · exact ht v h
    · exact ⟨t, by simpa using h, t0, by omega⟩
  · rintro σ' H' ⟨ts, v, x, y, z, u, rfl, hl, h6, ht, s⟩
    walk_at "sx"
    refine x_slL (sq_l (s.at 0 rfl)) s fun d H5 s => ?_
    have hcl := cutV_length ts none (some 1)
    refine x_addL s (.tail _ (.head _)) (.head _) (sz5 (by omega)) fun r H6 s => ?_
    have s := s.freezeL (K := K)
    refine x_forB (b := true) s.fact.1 (fun i σ' H' => (∃ v w, σ' = [some (.ref a), some (.ref p), some (.ref l), v, w]) ∧ S (fun B => SqB true K B r (ts ++ cutV ts none (some 1)) ∧ Same H B) [] H') ⟨⟨_, _, rfl⟩, s.sub (List.nil_sublist _)⟩ (fun i σ' H' h => h.2.fact.1) ?_ ?_
    · rintro i w σ' H' hw ⟨⟨v1, v2, rfl⟩, s⟩
      obtain ⟨t, rfl, t0, t1⟩ : ∃ t : Int, w = .int t ∧ 0 ≤ t ∧ t ≤ 15 := by
        rcases List.mem_append.mp (mem_of_get hw) with h | h
        · exact ht w h
        · exact ht w (mem_cutV h)
      walk_at "sx"
      refine ⟨t, rfl, t0, t1, fun H7 e7 => ?_⟩
      walk_at "sx"
      exact ⟨⟨_, _, rfl⟩, s.same e7⟩
    · rintro σ' H' ⟨⟨v1, v2, rfl⟩, s⟩
      walk_at "sx"
      exact q _ s.fact.2
/-! ### law: slots 0 script -/
def sp_law (K : PySem.W.Frag) : Sp := fun vs H Q _ => ∃ (a : Addr) (ns : List Int), vs = [.ref a] ∧ SqL K H a (ns.map V.int) ∧ ns.length ≤ 63 ∧ ∀ H', Q (.bl true) H'
def t_law (K : PySem.W.Frag) (E : XK) : TS := tRet (tAndV (tCall (sp_law_first_part K) [] E0 (tCons (tVar 0) (tNil))) (tCall (sp_law_second_part K) [] E0 (tCons (tVar 0) (tNil))))
theorem pure_law {K : PySem.W.Frag} (κ : KF K) (vs : List V) (H : Hp) (Q : VK) (E : XK) (h : sp_law K vs H Q E) : t_law K E ⟨fun _ H' => Q .non H', Q, fun _ _ => False, fun _ _ => False⟩ (start [("script" : Str)] vs) H := by
  unfold t_law
  obtain ⟨a, ns, rfl, ha, h63, q⟩ := h
  refine x_start (σ' := [some _]) ?_ rfl
  walk_at "sx"
  refine ⟨a, ns, rfl, ha, fun H1 e1 => ?_⟩
  walk_at "sx"
  exact ⟨a, ns, rfl, e1.seq ha, fun H2 e2 => q _⟩
/-! ## the text has them -/
theorem sc_words_of : FnScope [("line" : Str), "word"] [("line" : Str)] (defScope s_words_of) := ⟨rfl, rfl, rfl, by decide +kernel, rfl, by decide +kernel, by decide +kernel⟩
theorem o_words_of {P : Program} {w : World} {K : PySem.W.Frag} {mg : Str → Option Value} {base : Heap} (Z : Zz P w K mg base) {fd : FuncData} (F : FunD K dd_words_of.name dd_words_of.qual dd_words_of.params dd_words_of.body dd_words_of.scope (dd_words_of.dvs K) (dd_words_of.kws K) (He.fAd K dd_words_of.at_) fd) : FnOk P w K mg base (L2.CX P w) 1 (He.fAd K dd_words_of.at_) fd [("line" : Str)] (sp_words_of K) := by
  refine F.ok sc_words_of (fun vs H Q E h => ?_) (fun cdv A outer s H vs Q E hr h => ⟨t_words_of K E, PSs.nox ?_, pure_words_of Z.k vs H Q E h⟩)
  · obtain ⟨_, e, _⟩ := h; rw [e]; rfl
  · exact pss_one (ps_ret (pe_lc (own := [("word", 1)]) rfl sc_words_of.nd (pi_sq1 (pe_split1 (pv 0) (pe_str))) (blkOk_by (N := [("line" : Str), "word"]) (sc := defScope s_words_of) (by decide +kernel)) (fun _ _ _ _ _ => pg_name (i := 1) sc_words_of.nd rfl (by first | exact Or.inl rfl | exact Or.inr rfl)) (fun _ _ _ _ _ => pts_one (pt_cmpR (op_ne1 (hu64 hr)) (pv 1) (pe_str) (nomark _))) (fun _ _ _ _ _ => pv 1)))
theorem d_words_of {P : Program} {w : World} {K : PySem.W.Frag} {mg : Str → Option Value} {base : Heap} (Z : Zz P w K mg base) : DefOk P w K mg base "words_of" 1 [("line" : Str)] [] (sp_words_of K) := by
  obtain ⟨fd, F⟩ := Z.c.def_ 0 (d := dd_words_of) rfl
  have b := F.bindsN (ps := [("line" : Str)]) fun _ _ _ _ _ _ us hl => match us, hl with | [_], _ => rfl
  exact ⟨_, fd, [], o_words_of Z F, (He.glo_ok Z.X Z.G (Z.k.fact 16 (f := .glo "words_of") rfl)), F.kp, b, .nil⟩
theorem sc_number_of : FnScope [("word" : Str), "char"] [("word" : Str)] (defScope s_number_of) := ⟨rfl, rfl, rfl, by decide +kernel, rfl, by decide +kernel, by decide +kernel⟩
theorem o_number_of {P : Program} {w : World} {K : PySem.W.Frag} {mg : Str → Option Value} {base : Heap} (Z : Zz P w K mg base) {fd : FuncData} (F : FunD K dd_number_of.name dd_number_of.qual dd_number_of.params dd_number_of.body dd_number_of.scope (dd_number_of.dvs K) (dd_number_of.kws K) (He.fAd K dd_number_of.at_) fd) : FnOk P w K mg base (L2.CX P w) 1 (He.fAd K dd_number_of.at_) fd [("word" : Str)] (sp_number_of K) := by
  refine F.ok sc_number_of (fun vs H Q E h => ?_) (fun cdv A outer s H vs Q E hr h => ⟨t_number_of K E, PSs.nox ?_, pure_number_of Z.k vs H Q E h⟩)
  · obtain ⟨_, e, _⟩ := h; rw [e]; rfl
  · exact pss_cons (ps_if (pt_not (pt_chain op_le op_le (pe_int) (pe_callB call_len1 (by rfl) (He.free_ok Z.X Z.G (Z.k.fact 2 (f := .free "len") rfl)) (by decide +kernel) (pa_cons (pv 0) (pa_nil))) (pe_int_g (by rfl) (He.int_ok Z.X Z.G (Z.k.fact 4 (f := .int "MOST_DIGITS" 5) rfl))))) (pss_one (ps_ret (pe_non))) (pss_nil)) (pss_cons (ps_for PassesOwn.never rfl (pi_str (pv 0)) (pg_name (i := 1) sc_number_of.nd rfl (by first | exact Or.inl rfl | exact Or.inr rfl)) (pss_one (ps_if (pt_cmpR op_notIn1 (pv 1) (pe_str_g (by rfl) (He.str_ok Z.X Z.G (Z.k.fact 3 (f := .str "DIGITS" "0123456789") rfl))) (by rfl)) (pss_one (ps_ret (pe_non))) (pss_nil)))) (pss_cons (ps_if (PW.pt (pw_and (pt_cmpR (op_eq1 (hu64 hr)) (pe_ix ix_1 (pv 0) (pe_int) (fun _ _ => rfl)) (pe_str) (nomark _)) (pw_and1 (pt_cmpR op_gt (pe_callB call_len1 (by rfl) (He.free_ok Z.X Z.G (Z.k.fact 2 (f := .free "len") rfl)) (by decide +kernel) (pa_cons (pv 0) (pa_nil))) (pe_int) (nomark _))))) (pss_one (ps_ret (pe_non))) (pss_nil)) (pss_one (ps_ret (pe_callTy call_int_1 (by rfl) (He.free_ok Z.X Z.G (Z.k.fact 1 (f := .free "int") rfl)) (by decide +kernel) (pa_cons (pv 0) (pa_nil)))))))
theorem d_number_of {P : Program} {w : World} {K : PySem.W.Frag} {mg : Str → Option Value} {base : Heap} (Z : Zz P w K mg base) : DefOk P w K mg base "number_of" 1 [("word" : Str)] [] (sp_number_of K) := by
  obtain ⟨fd, F⟩ := Z.c.def_ 1 (d := dd_number_of) rfl
  have b := F.bindsN (ps := [("word" : Str)]) fun _ _ _ _ _ _ us hl => match us, hl with | [_], _ => rfl
  exact ⟨_, fd, [], o_number_of Z F, (He.glo_ok Z.X Z.G (Z.k.fact 17 (f := .glo "number_of") rfl)), F.kp, b, .nil⟩
theorem sc_is_name : FnScope [("text" : Str), "char"] [("text" : Str)] (defScope s_is_name) := ⟨rfl, rfl, rfl, by decide +kernel, rfl, by decide +kernel, by decide +kernel⟩
theorem o_is_name {P : Program} {w : World} {K : PySem.W.Frag} {mg : Str → Option Value} {base : Heap} (Z : Zz P w K mg base) {fd : FuncData} (F : FunD K dd_is_name.name dd_is_name.qual dd_is_name.params dd_is_name.body dd_is_name.scope (dd_is_name.dvs K) (dd_is_name.kws K) (He.fAd K dd_is_name.at_) fd) : FnOk P w K mg base (L2.CX P w) 1 (He.fAd K dd_is_name.at_) fd [("text" : Str)] (sp_is_name K) := by
  refine F.ok sc_is_name (fun vs H Q E h => ?_) (fun cdv A outer s H vs Q E hr h => ⟨t_is_name K E, PSs.nox ?_, pure_is_name Z.k vs H Q E h⟩)
  · obtain ⟨_, e, _⟩ := h; rw [e]; rfl
  · exact pss_cons (ps_if (pt_not (pt_chain op_le op_le (pe_int) (pe_callB call_len1 (by rfl) (He.free_ok Z.X Z.G (Z.k.fact 2 (f := .free "len") rfl)) (by decide +kernel) (pa_cons (pv 0) (pa_nil))) (pe_int_g (by rfl) (He.int_ok Z.X Z.G (Z.k.fact 6 (f := .int "LONGEST_NAME" 12) rfl))))) (pss_one (ps_ret (pe_bl))) (pss_nil)) (pss_cons (ps_for PassesOwn.never rfl (pi_str (pv 0)) (pg_name (i := 1) sc_is_name.nd rfl (by first | exact Or.inl rfl | exact Or.inr rfl)) (pss_one (ps_if (PW.pt (pw_and (pt_cmpR op_notIn1 (pv 1) (pe_str_g (by rfl) (He.str_ok Z.X Z.G (Z.k.fact 5 (f := .str "LETTERS" "abcdefghijklmnopqrstuvwxyz") rfl))) (by rfl)) (pw_and1 (pt_cmpR op_notIn1 (pv 1) (pe_str_g (by rfl) (He.str_ok Z.X Z.G (Z.k.fact 3 (f := .str "DIGITS" "0123456789") rfl))) (by rfl))))) (pss_one (ps_ret (pe_bl))) (pss_nil)))) (pss_one (ps_ret (pe_cmpR op_in1 (pe_ix ix_1 (pv 0) (pe_int) (fun _ _ => rfl)) (pe_str_g (by rfl) (He.str_ok Z.X Z.G (Z.k.fact 5 (f := .str "LETTERS" "abcdefghijklmnopqrstuvwxyz") rfl))) (by rfl)))))
theorem d_is_name {P : Program} {w : World} {K : PySem.W.Frag} {mg : Str → Option Value} {base : Heap} (Z : Zz P w K mg base) : DefOk P w K mg base "is_name" 1 [("text" : Str)] [] (sp_is_name K) := by
  obtain ⟨fd, F⟩ := Z.c.def_ 2 (d := dd_is_name) rfl
  have b := F.bindsN (ps := [("text" : Str)]) fun _ _ _ _ _ _ us hl => match us, hl with | [_], _ => rfl
  exact ⟨_, fd, [], o_is_name Z F, (He.glo_ok Z.X Z.G (Z.k.fact 18 (f := .glo "is_name") rfl)), F.kp, b, .nil⟩
theorem sc_from_bits : FnScope [("bits" : Str), "value", "weight", "bit"] [("bits" : Str)] (defScope s_from_bits) := ⟨rfl, rfl, rfl, by decide +kernel, rfl, by decide +kernel, by decide +kernel⟩
theorem o_from_bits {P : Program} {w : World} {K : PySem.W.Frag} {mg : Str → Option Value} {base : Heap} (Z : Zz P w K mg base) {fd : FuncData} (F : FunD K dd_from_bits.name dd_from_bits.qual dd_from_bits.params dd_from_bits.body dd_from_bits.scope (dd_from_bits.dvs K) (dd_from_bits.kws K) (He.fAd K dd_from_bits.at_) fd) : FnOk P w K mg base (L2.CX P w) 1 (He.fAd K dd_from_bits.at_) fd [("bits" : Str)] (sp_from_bits K) := by
  refine F.ok sc_from_bits (fun vs H Q E h => ?_) (fun cdv A outer s H vs Q E hr h => ⟨t_from_bits K E, PSs.nox ?_, pure_from_bits Z.k vs H Q E h⟩)
  · obtain ⟨_, _, _, e, _⟩ := h; rw [e]; rfl
  · exact pss_cons (ps_set (i := 1) sc_from_bits.nd rfl (by first | exact Or.inl rfl | exact Or.inr rfl) (pe_int)) (pss_cons (ps_set (i := 2) sc_from_bits.nd rfl (by first | exact Or.inl rfl | exact Or.inr rfl) (pe_int)) (pss_cons (ps_for PassesOwn.never rfl (pi_sq1 (pv 0)) (pg_name (i := 3) sc_from_bits.nd rfl (by first | exact Or.inl rfl | exact Or.inr rfl)) (pss_cons (ps_set (i := 1) sc_from_bits.nd rfl (by first | exact Or.inl rfl | exact Or.inr rfl) (pe_op op_add1 (pv 1) (pe_op op_mul1 (pv 2) (pv 3)))) (pss_one (ps_set (i := 2) sc_from_bits.nd rfl (by first | exact Or.inl rfl | exact Or.inr rfl) (pe_op op_mul1 (pe_int) (pv 2)))))) (pss_one (ps_ret (pv 1)))))
theorem d_from_bits {P : Program} {w : World} {K : PySem.W.Frag} {mg : Str → Option Value} {base : Heap} (Z : Zz P w K mg base) : DefOk P w K mg base "from_bits" 1 [("bits" : Str)] [] (sp_from_bits K) := by
  obtain ⟨fd, F⟩ := Z.c.def_ 3 (d := dd_from_bits) rfl
  have b := F.bindsN (ps := [("bits" : Str)]) fun _ _ _ _ _ _ us hl => match us, hl with | [_], _ => rfl
  exact ⟨_, fd, [], o_from_bits Z F, (He.glo_ok Z.X Z.G (Z.k.fact 19 (f := .glo "from_bits") rfl)), F.kp, b, .nil⟩
theorem sc_lookup : FnScope [("table" : Str), "first", "second"] [("table" : Str), "first", "second"] (defScope s_lookup) := ⟨rfl, rfl, rfl, by decide +kernel, rfl, by decide +kernel, by decide +kernel⟩
theorem o_lookup {P : Program} {w : World} {K : PySem.W.Frag} {mg : Str → Option Value} {base : Heap} (Z : Zz P w K mg base) {fd : FuncData} (F : FunD K dd_lookup.name dd_lookup.qual dd_lookup.params dd_lookup.body dd_lookup.scope (dd_lookup.dvs K) (dd_lookup.kws K) (He.fAd K dd_lookup.at_) fd) : FnOk P w K mg base (L2.CX P w) 1 (He.fAd K dd_lookup.at_) fd [("table" : Str), "first", "second"] (sp_lookup K) := by
  refine F.ok sc_lookup (fun vs H Q E h => ?_) (fun cdv A outer s H vs Q E hr h => ⟨t_lookup K E, PSs.nox ?_, pure_lookup Z.k vs H Q E h⟩)
  · obtain ⟨_, _, _, e, _⟩ := h; rw [e]; rfl
  · exact pss_one (ps_ret (pe_op op_band1 (pe_op op_shr1 (pv 0) (pe_op op_add1 (pe_op op_mul1 (pe_int) (pv 1)) (pv 2))) (pe_int)))
theorem d_lookup {P : Program} {w : World} {K : PySem.W.Frag} {mg : Str → Option Value} {base : Heap} (Z : Zz P w K mg base) : DefOk P w K mg base "lookup" 1 [("table" : Str), "first", "second"] [] (sp_lookup K) := by
  obtain ⟨fd, F⟩ := Z.c.def_ 4 (d := dd_lookup) rfl
  have b := F.bindsN (ps := [("table" : Str), "first", "second"]) fun _ _ _ _ _ _ us hl => match us, hl with | [_, _, _], _ => rfl
  exact ⟨_, fd, [], o_lookup Z F, (He.glo_ok Z.X Z.G (Z.k.fact 20 (f := .glo "lookup") rfl)), F.kp, b, .nil⟩
theorem sc_swapped : FnScope [("table" : Str), "x", "y"] [("table" : Str)] (defScope s_swapped) := ⟨rfl, rfl, rfl, by decide +kernel, rfl, by decide +kernel, by decide +kernel⟩
theorem o_swapped {P : Program} {w : World} {K : PySem.W.Frag} {mg : Str → Option Value} {base : Heap} (Z : Zz P w K mg base) {fd : FuncData} (F : FunD K dd_swapped.name dd_swapped.qual dd_swapped.params dd_swapped.body dd_swapped.scope (dd_swapped.dvs K) (dd_swapped.kws K) (He.fAd K dd_swapped.at_) fd) : FnOk P w K mg base (L2.CX P w) 2 (He.fAd K dd_swapped.at_) fd [("table" : Str)] (sp_swapped K) := by
  refine F.ok sc_swapped (fun vs H Q E h => ?_) (fun cdv A outer s H vs Q E hr h => ⟨t_swapped K E, PSs.nox ?_, pure_swapped Z.k vs H Q E h⟩)
  · obtain ⟨_, e, _⟩ := h; rw [e]; rfl
  · exact pss_one (ps_ret (pe_def (d_from_bits Z) (hr.mono (by first | decide | exact Nat.le_refl _)) (by rfl) passL (pa_cons (pe_lc (own := [("x", 1), ("y", 2)]) rfl sc_swapped.nd (pi_sq1 (pe_glob (by rfl) (He.glo_ok Z.X Z.G (Z.k.fact 7 (f := .glo "ARGUMENTS") rfl)) rfl)) (blkOk_by (N := [("table" : Str), "x", "y"]) (sc := defScope s_swapped) (by decide +kernel)) (fun _ _ _ _ _ => pg_tup rfl (pgs_cons (pg_name (i := 1) sc_swapped.nd rfl (by first | exact Or.inl rfl | exact Or.inr rfl)) (pgs_cons (pg_name (i := 2) sc_swapped.nd rfl (by first | exact Or.inl rfl | exact Or.inr rfl)) (pgs_nil)))) (fun _ _ _ _ _ => pts_nil) (fun _ _ _ _ _ => pe_def (d_lookup Z) (hr.mono (by first | decide | exact Nat.le_refl _)) (by rfl) passL (pa_cons (pv 0) (pa_cons (pv 2) (pa_cons (pv 1) (pa_nil)))))) (pa_nil))))
theorem d_swapped {P : Program} {w : World} {K : PySem.W.Frag} {mg : Str → Option Value} {base : Heap} (Z : Zz P w K mg base) : DefOk P w K mg base "swapped" 2 [("table" : Str)] [] (sp_swapped K) := by
  obtain ⟨fd, F⟩ := Z.c.def_ 5 (d := dd_swapped) rfl
  have b := F.bindsN (ps := [("table" : Str)]) fun _ _ _ _ _ _ us hl => match us, hl with | [_], _ => rfl
  exact ⟨_, fd, [], o_swapped Z F, (He.glo_ok Z.X Z.G (Z.k.fact 21 (f := .glo "swapped") rfl)), F.kp, b, .nil⟩
theorem sc_inverted : FnScope [("table" : Str), "first", "second", "x", "y"] [("table" : Str), "first", "second"] (defScope s_inverted) := ⟨rfl, rfl, rfl, by decide +kernel, rfl, by decide +kernel, by decide +kernel⟩
theorem o_inverted {P : Program} {w : World} {K : PySem.W.Frag} {mg : Str → Option Value} {base : Heap} (Z : Zz P w K mg base) {fd : FuncData} (F : FunD K dd_inverted.name dd_inverted.qual dd_inverted.params dd_inverted.body dd_inverted.scope (dd_inverted.dvs K) (dd_inverted.kws K) (He.fAd K dd_inverted.at_) fd) : FnOk P w K mg base (L2.CX P w) 2 (He.fAd K dd_inverted.at_) fd [("table" : Str), "first", "second"] (sp_inverted K) := by
  refine F.ok sc_inverted (fun vs H Q E h => ?_) (fun cdv A outer s H vs Q E hr h => ⟨t_inverted K E, PSs.nox ?_, pure_inverted Z.k vs H Q E h⟩)
  · obtain ⟨_, _, _, e, _⟩ := h; rw [e]; rfl
  · exact pss_one (ps_ret (pe_def (d_from_bits Z) (hr.mono (by first | decide | exact Nat.le_refl _)) (by rfl) passL (pa_cons (pe_lc (own := [("x", 3), ("y", 4)]) rfl sc_inverted.nd (pi_sq1 (pe_glob (by rfl) (He.glo_ok Z.X Z.G (Z.k.fact 7 (f := .glo "ARGUMENTS") rfl)) rfl)) (blkOk_by (N := [("table" : Str), "first", "second", "x", "y"]) (sc := defScope s_inverted) (by decide +kernel)) (fun _ _ _ _ _ => pg_tup rfl (pgs_cons (pg_name (i := 3) sc_inverted.nd rfl (by first | exact Or.inl rfl | exact Or.inr rfl)) (pgs_cons (pg_name (i := 4) sc_inverted.nd rfl (by first | exact Or.inl rfl | exact Or.inr rfl)) (pgs_nil)))) (fun _ _ _ _ _ => pts_nil) (fun _ _ _ _ _ => pe_def (d_lookup Z) (hr.mono (by first | decide | exact Nat.le_refl _)) (by rfl) passL (pa_cons (pv 0) (pa_cons (pe_op op_bxor1 (pv 3) (pv 1)) (pa_cons (pe_op op_bxor1 (pv 4) (pv 2)) (pa_nil)))))) (pa_nil))))
theorem d_inverted {P : Program} {w : World} {K : PySem.W.Frag} {mg : Str → Option Value} {base : Heap} (Z : Zz P w K mg base) : DefOk P w K mg base "inverted" 2 [("table" : Str), "first", "second"] [] (sp_inverted K) := by
  obtain ⟨fd, F⟩ := Z.c.def_ 6 (d := dd_inverted) rfl
  have b := F.bindsN (ps := [("table" : Str), "first", "second"]) fun _ _ _ _ _ _ us hl => match us, hl with | [_, _, _], _ => rfl
  exact ⟨_, fd, [], o_inverted Z F, (He.glo_ok Z.X Z.G (Z.k.fact 22 (f := .glo "inverted") rfl)), F.kp, b, .nil⟩
theorem sc_fixed : FnScope [("table" : Str), "first", "second", "answers", "x", "y", "left", "right"] [("table" : Str), "first", "second"] (defScope s_fixed) := ⟨rfl, rfl, rfl, by decide +kernel, rfl, by decide +kernel, by decide +kernel⟩
theorem o_fixed {P : Program} {w : World} {K : PySem.W.Frag} {mg : Str → Option Value} {base : Heap} (Z : Zz P w K mg base) {fd : FuncData} (F : FunD K dd_fixed.name dd_fixed.qual dd_fixed.params dd_fixed.body dd_fixed.scope (dd_fixed.dvs K) (dd_fixed.kws K) (He.fAd K dd_fixed.at_) fd) : FnOk P w K mg base (L2.CX P w) 2 (He.fAd K dd_fixed.at_) fd [("table" : Str), "first", "second"] (sp_fixed K) := by
  refine F.ok sc_fixed (fun vs H Q E h => ?_) (fun cdv A outer s H vs Q E hr h => ⟨t_fixed K E, PSs.nox ?_, pure_fixed Z.k vs H Q E h⟩)
  · obtain ⟨_, _, _, e, _⟩ := h; rw [e]; rfl
  · exact pss_cons (ps_set (i := 3) sc_fixed.nd rfl (by first | exact Or.inl rfl | exact Or.inr rfl) (pe_lst (pa_nil))) (pss_cons (ps_for PassesOwn.never rfl (pi_sq1 (pe_glob (by rfl) (He.glo_ok Z.X Z.G (Z.k.fact 7 (f := .glo "ARGUMENTS") rfl)) rfl)) (pg_tup rfl (pgs_cons (pg_name (i := 4) sc_fixed.nd rfl (by first | exact Or.inl rfl | exact Or.inr rfl)) (pgs_cons (pg_name (i := 5) sc_fixed.nd rfl (by first | exact Or.inl rfl | exact Or.inr rfl)) (pgs_nil)))) (pss_cons (ps_set (i := 6) sc_fixed.nd rfl (by first | exact Or.inl rfl | exact Or.inr rfl) (pe_ifExp (pt_cmpR op_is1 (pv 1) (pe_non) (nomark _)) (pv 4) (pv 1))) (pss_cons (ps_set (i := 7) sc_fixed.nd rfl (by first | exact Or.inl rfl | exact Or.inr rfl) (pe_ifExp (pt_cmpR op_is1 (pv 2) (pe_non) (nomark _)) (pv 5) (pv 2))) (pss_one (ps_expr (pe_bm PySem.F.plainAttrs_list PySem.F.slot_list_append PySem.F.type_list_append mt_append (pv 3) (pa_cons (pe_def (d_lookup Z) (hr.mono (by first | decide | exact Nat.le_refl _)) (by rfl) passL (pa_cons (pv 0) (pa_cons (pv 6) (pa_cons (pv 7) (pa_nil))))) (pa_nil)))))))) (pss_one (ps_ret (pe_def (d_from_bits Z) (hr.mono (by first | decide | exact Nat.le_refl _)) (by rfl) passL (pa_cons (pv 3) (pa_nil))))))
theorem d_fixed {P : Program} {w : World} {K : PySem.W.Frag} {mg : Str → Option Value} {base : Heap} (Z : Zz P w K mg base) : DefOk P w K mg base "fixed" 2 [("table" : Str), "first", "second"] [V.non, V.non] (sp_fixed K) := by
  obtain ⟨fd, F⟩ := Z.c.def_ 7 (d := dd_fixed) rfl
  obtain ⟨ds, hv, b⟩ := F.binds0 (ps := [("table" : Str), "first", "second"]) 1 (List.cons_ne_nil _ _) rfl fun D doc pm an cdv ct us ks h1 h2 => match us, ks, h1, h2 with | [_], [_, _], _, _ => by repeat (first | exact rfl | refine ⟨_, _, _, _, _, _, rfl, rfl, ?_⟩)
  exact ⟨_, fd, ds, o_fixed Z F, (He.glo_ok Z.X Z.G (Z.k.fact 23 (f := .glo "fixed") rfl)), F.kp, b, hv⟩
theorem k_kb_fixed_1_second {P : Program} {w : World} {K : PySem.W.Frag} {mg : Str → Option Value} {base : Heap} (Z : Zz P w K mg base) : DefKw P w K mg base "fixed" 2 [("table" : Str), "first", "second"] 1 [("second" : Str)] g_kb_fixed_1_second (sp_fixed K) := by
  obtain ⟨fd, F⟩ := Z.c.def_ 7 (d := dd_fixed) rfl
  obtain ⟨mv, hb⟩ := F.kbinds0 (ps := [("table" : Str), "first", "second"]) 1 [("second" : Str)] [("first", V.non)] (fun vs mz zs => vs ++ (mz ++ zs)) (List.cons_ne_nil _ _) (by intro q hq; rcases List.mem_cons.mp hq with rfl | hq; (exact mem_of_get (i := 0) rfl); cases hq) (fun r1 r2 r3 => Vals.append r1 (Vals.append r2 r3)) (fun D doc pm an cdv ct us mv ws h1 h2 h3 => match us, mv, ws, h1, h2, h3 with
    | [_], [_], [_], _, _, _ => by repeat (first | exact rfl | refine ⟨_, _, _, _, _, _, rfl, rfl, ?_⟩))
  exact ⟨_, fd, _, o_fixed Z F, (He.glo_ok Z.X Z.G (Z.k.fact 23 (f := .glo "fixed") rfl)), F.kp, hb⟩
theorem k_kb_fixed_1_first {P : Program} {w : World} {K : PySem.W.Frag} {mg : Str → Option Value} {base : Heap} (Z : Zz P w K mg base) : DefKw P w K mg base "fixed" 2 [("table" : Str), "first", "second"] 1 [("first" : Str)] g_kb_fixed_1_first (sp_fixed K) := by
  obtain ⟨fd, F⟩ := Z.c.def_ 7 (d := dd_fixed) rfl
  obtain ⟨mv, hb⟩ := F.kbinds0 (ps := [("table" : Str), "first", "second"]) 1 [("first" : Str)] [("second", V.non)] (fun vs mz zs => vs ++ (zs ++ mz)) (List.cons_ne_nil _ _) (by intro q hq; rcases List.mem_cons.mp hq with rfl | hq; (exact mem_of_get (i := 1) rfl); cases hq) (fun r1 r2 r3 => Vals.append r1 (Vals.append r3 r2)) (fun D doc pm an cdv ct us mv ws h1 h2 h3 => match us, mv, ws, h1, h2, h3 with
    | [_], [_], [_], _, _, _ => by repeat (first | exact rfl | refine ⟨_, _, _, _, _, _, rfl, rfl, ?_⟩))
  exact ⟨_, fd, _, o_fixed Z F, (He.glo_ok Z.X Z.G (Z.k.fact 23 (f := .glo "fixed") rfl)), F.kp, hb⟩
theorem k_kb_fixed_1_second_first {P : Program} {w : World} {K : PySem.W.Frag} {mg : Str → Option Value} {base : Heap} (Z : Zz P w K mg base) : DefKw P w K mg base "fixed" 2 [("table" : Str), "first", "second"] 1 [("second" : Str), "first"] g_kb_fixed_1_second_first (sp_fixed K) := by
  obtain ⟨fd, F⟩ := Z.c.def_ 7 (d := dd_fixed) rfl
  obtain ⟨mv, hb⟩ := F.kbinds0 (ps := [("table" : Str), "first", "second"]) 1 [("second" : Str), "first"] [] (fun vs mz zs => vs ++ (((zs.drop 1).take 1) ++ ((zs.drop 0).take 1))) (List.cons_ne_nil _ _) (by intro q hq; cases hq) (fun r1 r2 r3 => Vals.append r1 (Vals.append (vals_pick 1 r3) (vals_pick 0 r3))) (fun D doc pm an cdv ct us mv ws h1 h2 h3 => match us, mv, ws, h1, h2, h3 with
    | [_], [], [_, _], _, _, _ => by repeat (first | exact rfl | refine ⟨_, _, _, _, _, _, rfl, rfl, ?_⟩))
  exact ⟨_, fd, _, o_fixed Z F, (He.glo_ok Z.X Z.G (Z.k.fact 23 (f := .glo "fixed") rfl)), F.kp, hb⟩
theorem k_kb_fixed_1_first_second {P : Program} {w : World} {K : PySem.W.Frag} {mg : Str → Option Value} {base : Heap} (Z : Zz P w K mg base) : DefKw P w K mg base "fixed" 2 [("table" : Str), "first", "second"] 1 [("first" : Str), "second"] g_kb_fixed_1_first_second (sp_fixed K) := by
  obtain ⟨fd, F⟩ := Z.c.def_ 7 (d := dd_fixed) rfl
  obtain ⟨mv, hb⟩ := F.kbinds0 (ps := [("table" : Str), "first", "second"]) 1 [("first" : Str), "second"] [] (fun vs mz zs => vs ++ (((zs.drop 0).take 1) ++ ((zs.drop 1).take 1))) (List.cons_ne_nil _ _) (by intro q hq; cases hq) (fun r1 r2 r3 => Vals.append r1 (Vals.append (vals_pick 0 r3) (vals_pick 1 r3))) (fun D doc pm an cdv ct us mv ws h1 h2 h3 => match us, mv, ws, h1, h2, h3 with
    | [_], [], [_, _], _, _, _ => by repeat (first | exact rfl | refine ⟨_, _, _, _, _, _, rfl, rfl, ?_⟩))
  exact ⟨_, fd, _, o_fixed Z F, (He.glo_ok Z.X Z.G (Z.k.fact 23 (f := .glo "fixed") rfl)), F.kp, hb⟩
theorem sc_depends : FnScope [("table" : Str)] [("table" : Str)] (defScope s_depends) := ⟨rfl, rfl, rfl, by decide +kernel, rfl, by decide +kernel, by decide +kernel⟩
theorem o_depends {P : Program} {w : World} {K : PySem.W.Frag} {mg : Str → Option Value} {base : Heap} (Z : Zz P w K mg base) {fd : FuncData} (F : FunD K dd_depends.name dd_depends.qual dd_depends.params dd_depends.body dd_depends.scope (dd_depends.dvs K) (dd_depends.kws K) (He.fAd K dd_depends.at_) fd) : FnOk P w K mg base (L2.CX P w) 3 (He.fAd K dd_depends.at_) fd [("table" : Str)] (sp_depends K) := by
  refine F.ok sc_depends (fun vs H Q E h => ?_) (fun cdv A outer s H vs Q E hr h => ⟨t_depends K E, PSs.nox ?_, pure_depends Z.k vs H Q E h⟩)
  · obtain ⟨_, e, _⟩ := h; rw [e]; rfl
  · exact pss_one (ps_ret (pe_tup (pa_cons (pe_cmpR (op_ne1 (hu64 hr)) (pe_defK (k_kb_fixed_1_first Z) (hr.mono (by first | decide | exact Nat.le_refl _)) (by rfl) passL (pa_cons (pv 0) (pa_nil)) (pk_cons (pe_int) (pk_nil))) (pe_defK (k_kb_fixed_1_first Z) (hr.mono (by first | decide | exact Nat.le_refl _)) (by rfl) passL (pa_cons (pv 0) (pa_nil)) (pk_cons (pe_int) (pk_nil))) (nomark _)) (pa_cons (pe_cmpR (op_ne1 (hu64 hr)) (pe_defK (k_kb_fixed_1_second Z) (hr.mono (by first | decide | exact Nat.le_refl _)) (by rfl) passL (pa_cons (pv 0) (pa_nil)) (pk_cons (pe_int) (pk_nil))) (pe_defK (k_kb_fixed_1_second Z) (hr.mono (by first | decide | exact Nat.le_refl _)) (by rfl) passL (pa_cons (pv 0) (pa_nil)) (pk_cons (pe_int) (pk_nil))) (nomark _)) (pa_nil)))))
theorem d_depends {P : Program} {w : World} {K : PySem.W.Frag} {mg : Str → Option Value} {base : Heap} (Z : Zz P w K mg base) : DefOk P w K mg base "depends" 3 [("table" : Str)] [] (sp_depends K) := by
  obtain ⟨fd, F⟩ := Z.c.def_ 8 (d := dd_depends) rfl
  have b := F.bindsN (ps := [("table" : Str)]) fun _ _ _ _ _ _ us hl => match us, hl with | [_], _ => rfl
  exact ⟨_, fd, [], o_depends Z F, (He.glo_ok Z.X Z.G (Z.k.fact 24 (f := .glo "depends") rfl)), F.kp, b, .nil⟩
theorem sc_law_pool : FnScope [("script" : Str), "place", "cell"] [("script" : Str), "place"] (defScope s_law_pool) := ⟨rfl, rfl, rfl, by decide +kernel, rfl, by decide +kernel, by decide +kernel⟩
theorem o_law_pool {P : Program} {w : World} {K : PySem.W.Frag} {mg : Str → Option Value} {base : Heap} (Z : Zz P w K mg base) {fd : FuncData} (F : FunD K dd_law_pool.name dd_law_pool.qual dd_law_pool.params dd_law_pool.body dd_law_pool.scope (dd_law_pool.dvs K) (dd_law_pool.kws K) (He.fAd K dd_law_pool.at_) fd) : FnOk P w K mg base (L2.CX P w) 1 (He.fAd K dd_law_pool.at_) fd [("script" : Str), "place"] (sp_law_pool K) := by
  refine F.ok sc_law_pool (fun vs H Q E h => ?_) (fun cdv A outer s H vs Q E hr h => ⟨t_law_pool K E, PSs.nox ?_, pure_law_pool Z.k vs H Q E h⟩)
  · obtain ⟨_, _, _, e, _⟩ := h; rw [e]; rfl
  · exact pss_cons (ps_if (pt_cmpR (op_eq1 (hu64 hr)) (pe_callB call_len1 (by rfl) (He.free_ok Z.X Z.G (Z.k.fact 2 (f := .free "len") rfl)) (by decide +kernel) (pa_cons (pv 0) (pa_nil))) (pe_int) (nomark _)) (pss_one (ps_ret (pe_lst (pa_cons (pe_int) (pa_cons (pe_int) (pa_cons (pe_int) (pa_cons (pe_int) (pa_nil)))))))) (pss_nil)) (pss_cons (ps_set (i := 2) sc_law_pool.nd rfl (by first | exact Or.inl rfl | exact Or.inr rfl) (pe_callB call_abs1 (by rfl) (He.free_ok Z.X Z.G (Z.k.fact 8 (f := .free "abs") rfl)) (by decide +kernel) (pa_cons (pe_ix ix_1 (pv 0) (pe_op op_mod1 (pe_callTy call_int_1 (by rfl) (He.free_ok Z.X Z.G (Z.k.fact 1 (f := .free "int") rfl)) (by decide +kernel) (pa_cons (pv 1) (pa_nil))) (pe_callB call_len1 (by rfl) (He.free_ok Z.X Z.G (Z.k.fact 2 (f := .free "len") rfl)) (by decide +kernel) (pa_cons (pv 0) (pa_nil)))) (fun _ _ => rfl)) (pa_nil)))) (pss_cons (ps_if (PW.pt (pw_and (pt_cmpR op_lt (pv 1) (pe_callB call_len1 (by rfl) (He.free_ok Z.X Z.G (Z.k.fact 2 (f := .free "len") rfl)) (by decide +kernel) (pa_cons (pv 0) (pa_nil))) (nomark _)) (pw_and1 (pt_cmpR op_ge (pv 2) (pe_op op_pow1 (pe_int) (pe_int)) (nomark _))))) (pss_one (ps_ret (pe_lst (pa_cons (pe_int) (pa_cons (pv 2) (pa_cons (pe_op op_mod1 (pe_callTy call_int_1 (by rfl) (He.free_ok Z.X Z.G (Z.k.fact 1 (f := .free "int") rfl)) (by decide +kernel) (pa_cons (pv 2) (pa_nil))) (pe_int)) (pa_cons (pe_int) (pa_nil)))))))) (pss_nil)) (pss_one (ps_ret (pe_lst (pa_cons (pe_int) (pa_cons (pe_int) (pa_cons (pe_op op_mod1 (pe_callTy call_int_1 (by rfl) (He.free_ok Z.X Z.G (Z.k.fact 1 (f := .free "int") rfl)) (by decide +kernel) (pa_cons (pe_op op_add1 (pv 2) (pe_op op_mul1 (pe_int) (pv 1))) (pa_nil))) (pe_int)) (pa_cons (pe_int) (pa_nil))))))))))
theorem d_law_pool {P : Program} {w : World} {K : PySem.W.Frag} {mg : Str → Option Value} {base : Heap} (Z : Zz P w K mg base) : DefOk P w K mg base "_law_pool" 1 [("script" : Str), "place"] [] (sp_law_pool K) := by
  obtain ⟨fd, F⟩ := Z.c.def_ 9 (d := dd_law_pool) rfl
  have b := F.bindsN (ps := [("script" : Str), "place"]) fun _ _ _ _ _ _ us hl => match us, hl with | [_, _], _ => rfl
  exact ⟨_, fd, [], o_law_pool Z F, (He.glo_ok Z.X Z.G (Z.k.fact 25 (f := .glo "_law_pool") rfl)), F.kp, b, .nil⟩
theorem sc_law_draw : FnScope [("pool" : Str), "many", "got", "x"] [("pool" : Str), "many"] (defScope s_law_draw) := ⟨rfl, rfl, rfl, by decide +kernel, rfl, by decide +kernel, by decide +kernel⟩
theorem o_law_draw {P : Program} {w : World} {K : PySem.W.Frag} {mg : Str → Option Value} {base : Heap} (Z : Zz P w K mg base) {fd : FuncData} (F : FunD K dd_law_draw.name dd_law_draw.qual dd_law_draw.params dd_law_draw.body dd_law_draw.scope (dd_law_draw.dvs K) (dd_law_draw.kws K) (He.fAd K dd_law_draw.at_) fd) : FnOk P w K mg base (L2.CX P w) 1 (He.fAd K dd_law_draw.at_) fd [("pool" : Str), "many"] (sp_law_draw K) := by
  refine F.ok sc_law_draw (fun vs H Q E h => ?_) (fun cdv A outer s H vs Q E hr h => ⟨t_law_draw K E, PSs.nox ?_, pure_law_draw Z.k vs H Q E h⟩)
  · obtain ⟨_, _, _, _, _, _, _, _, _, e, _⟩ := h; rw [e]; rfl
  · exact pss_cons (ps_asg (pe_op op_add1 (pe_ix ix_1 (pv 0) (pe_int) (fun _ _ => rfl)) (pe_int)) (pg_sub (pv 0) (pe_int) set_list)) (pss_cons (ps_if (pt_cmpR (op_eq1 (hu64 hr)) (pe_ix ix_1 (pv 0) (pe_int) (fun _ _ => rfl)) (pe_int) (nomark _)) (pss_one (ps_ret (pe_int))) (pss_nil)) (pss_cons (ps_if (PW.pt (pw_and (pt_cmpR (op_eq1 (hu64 hr)) (pe_ix ix_1 (pv 0) (pe_int) (fun _ _ => rfl)) (pe_int) (nomark _)) (pw_and (pt_cmpR op_le (pe_ix ix_1 (pv 0) (pe_int) (fun _ _ => rfl)) (pe_int) (nomark _)) (pw_and1 (pt_cmpR op_gt (pe_ix ix_1 (pv 0) (pe_int) (fun _ _ => rfl)) (pe_int) (nomark _)))))) (pss_cons (ps_set (i := 2) sc_law_draw.nd rfl (by first | exact Or.inl rfl | exact Or.inr rfl) (pe_op op_mod1 (pe_callTy call_int_1 (by rfl) (He.free_ok Z.X Z.G (Z.k.fact 1 (f := .free "int") rfl)) (by decide +kernel) (pa_cons (pe_ix ix_1 (pv 0) (pe_int) (fun _ _ => rfl)) (pa_nil))) (pv 1))) (pss_cons (ps_asg (pe_op op_fdivW (pe_ix ix_1 (pv 0) (pe_int) (fun _ _ => rfl)) (pv 1)) (pg_sub (pv 0) (pe_int) set_list)) (pss_one (ps_ret (pv 2))))) (pss_nil)) (pss_cons (ps_set (i := 3) sc_law_draw.nd rfl (by first | exact Or.inl rfl | exact Or.inr rfl) (pe_op op_mod1 (pe_callTy call_int_1 (by rfl) (He.free_ok Z.X Z.G (Z.k.fact 1 (f := .free "int") rfl)) (by decide +kernel) (pa_cons (pe_op op_add1 (pe_op op_add1 (pe_ix ix_1 (pv 0) (pe_int) (fun _ _ => rfl)) (pe_op op_mul1 (pe_int) (pe_ix ix_1 (pv 0) (pe_int) (fun _ _ => rfl)))) (pe_int)) (pa_nil))) (pe_int))) (pss_cons (ps_set (i := 3) sc_law_draw.nd rfl (by first | exact Or.inl rfl | exact Or.inr rfl) (pe_op op_mod1 (pe_callTy call_int_1 (by rfl) (He.free_ok Z.X Z.G (Z.k.fact 1 (f := .free "int") rfl)) (by decide +kernel) (pa_cons (pe_op op_add1 (pe_op op_add1 (pe_op op_mul1 (pv 3) (pv 3)) (pe_op op_mul1 (pe_int) (pe_ix ix_1 (pv 0) (pe_int) (fun _ _ => rfl)))) (pe_int)) (pa_nil))) (pe_int))) (pss_cons (ps_set (i := 3) sc_law_draw.nd rfl (by first | exact Or.inl rfl | exact Or.inr rfl) (pe_op op_mod1 (pe_callTy call_int_1 (by rfl) (He.free_ok Z.X Z.G (Z.k.fact 1 (f := .free "int") rfl)) (by decide +kernel) (pa_cons (pe_op op_add1 (pe_op op_add1 (pe_op op_mul1 (pv 3) (pv 3)) (pe_int)) (pe_ix ix_1 (pv 0) (pe_int) (fun _ _ => rfl))) (pa_nil))) (pe_int))) (pss_one (ps_ret (pe_op op_mod1 (pe_callTy call_int_1 (by rfl) (He.free_ok Z.X Z.G (Z.k.fact 1 (f := .free "int") rfl)) (by decide +kernel) (pa_cons (pe_op op_fdivW (pv 3) (pe_int)) (pa_nil))) (pv 1)))))))))
theorem d_law_draw {P : Program} {w : World} {K : PySem.W.Frag} {mg : Str → Option Value} {base : Heap} (Z : Zz P w K mg base) : DefOk P w K mg base "_law_draw" 1 [("pool" : Str), "many"] [] (sp_law_draw K) := by
  obtain ⟨fd, F⟩ := Z.c.def_ 10 (d := dd_law_draw) rfl
  have b := F.bindsN (ps := [("pool" : Str), "many"]) fun _ _ _ _ _ _ us hl => match us, hl with | [_, _], _ => rfl
  exact ⟨_, fd, [], o_law_draw Z F, (He.glo_ok Z.X Z.G (Z.k.fact 26 (f := .glo "_law_draw") rfl)), F.kp, b, .nil⟩
theorem sc_law_same : FnScope [("told" : Str), "due", "name", "k"] [("told" : Str), "due"] (defScope s_law_same) := ⟨rfl, rfl, rfl, by decide +kernel, rfl, by decide +kernel, by decide +kernel⟩
theorem d_law_same {P : Program} {w : World} {K : PySem.W.Frag} {mg : Str → Option Value} {base : Heap} (Z : Zz P w K mg base) : ∀ n : Nat, DefOk P w K mg base "_law_same" (n + 1) [("told" : Str), "due"] [] (sp_law_same n K) := by
  obtain ⟨fd, F⟩ := Z.c.def_ 11 (d := dd_law_same) rfl
  have b := F.bindsN (ps := [("told" : Str), "due"]) fun _ _ _ _ _ _ us hl => match us, hl with | [_, _], _ => rfl
  have key : ∀ (sp : Sp) (n m : Nat), DefOk P w K mg base "_law_same" m [("told" : Str), "due"] [] sp → (∀ vs H Q E i, n = i + 1 → sp_law_same i K vs H Q E → sp vs H Q E) → DefOk P w K mg base "_law_same" (m + 1) [("told" : Str), "due"] [] (sp_law_same n K) := by
    intro sp n m D hsp
    refine ⟨_, fd, [], F.ok sc_law_same (fun vs H Q E h => ?_) (fun cdv A outer s H vs Q E hr h => ⟨t_law_same K sp E, PSs.nox ?_, pure_law_same hsp vs H Q E h⟩), (He.glo_ok Z.X Z.G (Z.k.fact 27 (f := .glo "_law_same") rfl)), F.kp, b, .nil⟩
    · obtain ⟨_, _, _, e, _⟩ := h; rw [e]; rfl
    · exact pss_cons (ps_if (pt_cmpR op_is1 (pv 1) (pe_non) (nomark _)) (pss_one (ps_ret (pe_cmpR op_is1 (pv 0) (pe_non) (nomark _)))) (pss_nil)) (pss_cons (ps_if (pt_cmpR op_is1 (pv 1) (pe_bl) (nomark _)) (pss_one (ps_ret (pe_cmpR op_is1 (pv 0) (pe_bl) (nomark _)))) (pss_nil)) (pss_cons (ps_if (pt_cmpR op_is1 (pv 1) (pe_bl) (nomark _)) (pss_one (ps_ret (pe_cmpR op_is1 (pv 0) (pe_bl) (nomark _)))) (pss_nil)) (pss_cons (ps_if (pt_tr (pe_callB call_isi1 (by rfl) (He.free_ok Z.X Z.G (Z.k.fact 11 (f := .free "isinstance") rfl)) (by decide +kernel) (pa_cons (pv 1) (pa_cons (pe_bltn (v := .ty "int") (by rfl) (He.free_ok Z.X Z.G (Z.k.fact 1 (f := .free "int") rfl)) (by decide +kernel) rfl) (pa_nil)))) (by intro _; rfl)) (pss_one (ps_ret (pe_and (pe_callB call_isi1 (by rfl) (He.free_ok Z.X Z.G (Z.k.fact 11 (f := .free "isinstance") rfl)) (by decide +kernel) (pa_cons (pv 0) (pa_cons (pe_bltn (v := .ty "int") (by rfl) (He.free_ok Z.X Z.G (Z.k.fact 1 (f := .free "int") rfl)) (by decide +kernel) rfl) (pa_nil)))) (pe_and (pe_not (pe_callB call_isi1 (by rfl) (He.free_ok Z.X Z.G (Z.k.fact 11 (f := .free "isinstance") rfl)) (by decide +kernel) (pa_cons (pv 0) (pa_cons (pe_bltn (v := .ty "bool") (by rfl) (He.free_ok Z.X Z.G (Z.k.fact 15 (f := .free "bool") rfl)) (by decide +kernel) rfl) (pa_nil))))) (pe_one (pe_cmpR (op_eq1 (hu64 hr)) (pv 0) (pv 1) (nomark _))))))) (pss_nil)) (pss_cons (ps_if (pt_tr (pe_callB call_isi1 (by rfl) (He.free_ok Z.X Z.G (Z.k.fact 11 (f := .free "isinstance") rfl)) (by decide +kernel) (pa_cons (pv 1) (pa_cons (pe_bltn (v := .ty "str") (by rfl) (He.free_ok Z.X Z.G (Z.k.fact 14 (f := .free "str") rfl)) (by decide +kernel) rfl) (pa_nil)))) (by intro _; rfl)) (pss_one (ps_ret (pe_and (pe_callB call_isi1 (by rfl) (He.free_ok Z.X Z.G (Z.k.fact 11 (f := .free "isinstance") rfl)) (by decide +kernel) (pa_cons (pv 0) (pa_cons (pe_bltn (v := .ty "str") (by rfl) (He.free_ok Z.X Z.G (Z.k.fact 14 (f := .free "str") rfl)) (by decide +kernel) rfl) (pa_nil)))) (pe_one (pe_cmpR (op_eq1 (hu64 hr)) (pv 0) (pv 1) (nomark _)))))) (pss_nil)) (pss_cons (ps_if (pt_tr (pe_callB call_isi1 (by rfl) (He.free_ok Z.X Z.G (Z.k.fact 11 (f := .free "isinstance") rfl)) (by decide +kernel) (pa_cons (pv 1) (pa_cons (pe_bltn (v := .ty "dict") (by rfl) (He.free_ok Z.X Z.G (Z.k.fact 13 (f := .free "dict") rfl)) (by decide +kernel) rfl) (pa_nil)))) (by intro _; rfl)) (pss_cons (ps_if (PW.pt (pw_or (pt_not (pt_tr (pe_callB call_isi1 (by rfl) (He.free_ok Z.X Z.G (Z.k.fact 11 (f := .free "isinstance") rfl)) (by decide +kernel) (pa_cons (pv 0) (pa_cons (pe_bltn (v := .ty "dict") (by rfl) (He.free_ok Z.X Z.G (Z.k.fact 13 (f := .free "dict") rfl)) (by decide +kernel) rfl) (pa_nil)))) (by intro _; rfl))) (pw_or1 (pt_cmpR (op_ne1 (hu64 hr)) (pe_callB call_len1 (by rfl) (He.free_ok Z.X Z.G (Z.k.fact 2 (f := .free "len") rfl)) (by decide +kernel) (pa_cons (pv 0) (pa_nil))) (pe_callB call_len1 (by rfl) (He.free_ok Z.X Z.G (Z.k.fact 2 (f := .free "len") rfl)) (by decide +kernel) (pa_cons (pv 1) (pa_nil))) (nomark _))))) (pss_one (ps_ret (pe_bl))) (pss_nil)) (pss_cons (ps_for PassesOwn.never rfl (pi_sq1 (pv 1)) (pg_name (i := 2) sc_law_same.nd rfl (by first | exact Or.inl rfl | exact Or.inr rfl)) (pss_one (ps_if (PW.pt (pw_or (pt_cmpR op_notIn1 (pv 2) (pv 0) (by rfl)) (pw_or1 (pt_not (pt_tr (pe_def D (hr.mono (by first | decide | exact Nat.le_refl _)) (by rfl) passL (pa_cons (pe_ix ix_1 (pv 0) (pv 2) (fun _ _ => rfl)) (pa_cons (pe_ix ix_1 (pv 1) (pv 2) (fun _ _ => rfl)) (pa_nil)))) (by intro _; rfl)))))) (pss_one (ps_ret (pe_bl))) (pss_nil)))) (pss_one (ps_ret (pe_bl))))) (pss_nil)) (pss_cons (ps_if (PW.pt (pw_and (pt_tr (pe_callB call_isi1 (by rfl) (He.free_ok Z.X Z.G (Z.k.fact 11 (f := .free "isinstance") rfl)) (by decide +kernel) (pa_cons (pv 1) (pa_cons (pe_bltn (v := .ty "list") (by rfl) (He.free_ok Z.X Z.G (Z.k.fact 12 (f := .free "list") rfl)) (by decide +kernel) rfl) (pa_nil)))) (by intro _; rfl)) (pw_and1 (pt_not (pt_tr (pe_callB call_isi1 (by rfl) (He.free_ok Z.X Z.G (Z.k.fact 11 (f := .free "isinstance") rfl)) (by decide +kernel) (pa_cons (pv 0) (pa_cons (pe_bltn (v := .ty "list") (by rfl) (He.free_ok Z.X Z.G (Z.k.fact 12 (f := .free "list") rfl)) (by decide +kernel) rfl) (pa_nil)))) (by intro _; rfl)))))) (pss_one (ps_ret (pe_bl))) (pss_nil)) (pss_cons (ps_if (PW.pt (pw_and (pt_tr (pe_callB call_isi1 (by rfl) (He.free_ok Z.X Z.G (Z.k.fact 11 (f := .free "isinstance") rfl)) (by decide +kernel) (pa_cons (pv 1) (pa_cons (pe_bltn (v := .ty "tuple") (by rfl) (He.free_ok Z.X Z.G (Z.k.fact 10 (f := .free "tuple") rfl)) (by decide +kernel) rfl) (pa_nil)))) (by intro _; rfl)) (pw_and1 (pt_not (pt_tr (pe_callB call_isi1 (by rfl) (He.free_ok Z.X Z.G (Z.k.fact 11 (f := .free "isinstance") rfl)) (by decide +kernel) (pa_cons (pv 0) (pa_cons (pe_bltn (v := .ty "tuple") (by rfl) (He.free_ok Z.X Z.G (Z.k.fact 10 (f := .free "tuple") rfl)) (by decide +kernel) rfl) (pa_nil)))) (by intro _; rfl)))))) (pss_one (ps_ret (pe_bl))) (pss_nil)) (pss_cons (ps_if (pt_cmpR (op_ne1 (hu64 hr)) (pe_callB call_len1 (by rfl) (He.free_ok Z.X Z.G (Z.k.fact 2 (f := .free "len") rfl)) (by decide +kernel) (pa_cons (pv 0) (pa_nil))) (pe_callB call_len1 (by rfl) (He.free_ok Z.X Z.G (Z.k.fact 2 (f := .free "len") rfl)) (by decide +kernel) (pa_cons (pv 1) (pa_nil))) (nomark _)) (pss_one (ps_ret (pe_bl))) (pss_nil)) (pss_cons (ps_for PassesOwn.never rfl (pi_range1 (by rfl) (He.free_ok Z.X Z.G (Z.k.fact 9 (f := .free "range") rfl)) (pa_cons (pe_callB call_len1 (by rfl) (He.free_ok Z.X Z.G (Z.k.fact 2 (f := .free "len") rfl)) (by decide +kernel) (pa_cons (pv 1) (pa_nil))) (pa_nil))) (pg_name (i := 3) sc_law_same.nd rfl (by first | exact Or.inl rfl | exact Or.inr rfl)) (pss_one (ps_if (pt_not (pt_tr (pe_def D (hr.mono (by first | decide | exact Nat.le_refl _)) (by rfl) passL (pa_cons (pe_ix ix_1 (pv 0) (pv 3) (fun _ _ => rfl)) (pa_cons (pe_ix ix_1 (pv 1) (pv 3) (fun _ _ => rfl)) (pa_nil)))) (by intro _; rfl))) (pss_one (ps_ret (pe_bl))) (pss_nil)))) (pss_one (ps_ret (pe_bl))))))))))))
  intro n
  induction n with
  | zero => exact key (fun _ _ _ _ => False) 0 0 ⟨_, fd, [], ⟨fun _ _ _ _ h => h.elim, fun _ _ _ _ _ _ _ _ _ _ _ _ _ h => h.elim⟩, (He.glo_ok Z.X Z.G (Z.k.fact 27 (f := .glo "_law_same") rfl)), F.kp, b, .nil⟩ fun _ _ _ _ i h => nomatch h
  | succ n ih => exact key _ _ _ ih fun vs H Q E i h z => by cases h; exact z
theorem sc_law_is_name : FnScope [("text" : Str), "sign"] [("text" : Str)] (defScope s_law_is_name) := ⟨rfl, rfl, rfl, by decide +kernel, rfl, by decide +kernel, by decide +kernel⟩
theorem o_law_is_name {P : Program} {w : World} {K : PySem.W.Frag} {mg : Str → Option Value} {base : Heap} (Z : Zz P w K mg base) {fd : FuncData} (F : FunD K dd_law_is_name.name dd_law_is_name.qual dd_law_is_name.params dd_law_is_name.body dd_law_is_name.scope (dd_law_is_name.dvs K) (dd_law_is_name.kws K) (He.fAd K dd_law_is_name.at_) fd) : FnOk P w K mg base (L2.CX P w) 1 (He.fAd K dd_law_is_name.at_) fd [("text" : Str)] (sp_law_is_name K) := by
  refine F.ok sc_law_is_name (fun vs H Q E h => ?_) (fun cdv A outer s H vs Q E hr h => ⟨t_law_is_name K E, PSs.nox ?_, pure_law_is_name Z.k vs H Q E h⟩)
  · obtain ⟨_, e, _⟩ := h; rw [e]; rfl
  · exact pss_cons (ps_if (PW.pt (pw_or (pt_cmpR (op_eq1 (hu64 hr)) (pe_callB call_len1 (by rfl) (He.free_ok Z.X Z.G (Z.k.fact 2 (f := .free "len") rfl)) (by decide +kernel) (pa_cons (pv 0) (pa_nil))) (pe_int) (nomark _)) (pw_or (pt_cmpR op_gt (pe_callB call_len1 (by rfl) (He.free_ok Z.X Z.G (Z.k.fact 2 (f := .free "len") rfl)) (by decide +kernel) (pa_cons (pv 0) (pa_nil))) (pe_int) (nomark _)) (pw_or1 (pt_cmpR op_notIn1 (pe_ix ix_1 (pv 0) (pe_int) (fun _ _ => rfl)) (pe_str) (by rfl)))))) (pss_one (ps_ret (pe_bl))) (pss_nil)) (pss_cons (ps_for PassesOwn.never rfl (pi_str (pv 0)) (pg_name (i := 1) sc_law_is_name.nd rfl (by first | exact Or.inl rfl | exact Or.inr rfl)) (pss_one (ps_if (pt_cmpR op_notIn1 (pv 1) (pe_str) (by rfl)) (pss_one (ps_ret (pe_bl))) (pss_nil)))) (pss_one (ps_ret (pe_bl))))
theorem d_law_is_name {P : Program} {w : World} {K : PySem.W.Frag} {mg : Str → Option Value} {base : Heap} (Z : Zz P w K mg base) : DefOk P w K mg base "_law_is_name" 1 [("text" : Str)] [] (sp_law_is_name K) := by
  obtain ⟨fd, F⟩ := Z.c.def_ 12 (d := dd_law_is_name) rfl
  have b := F.bindsN (ps := [("text" : Str)]) fun _ _ _ _ _ _ us hl => match us, hl with | [_], _ => rfl
  exact ⟨_, fd, [], o_law_is_name Z F, (He.glo_ok Z.X Z.G (Z.k.fact 28 (f := .glo "_law_is_name") rfl)), F.kp, b, .nil⟩
theorem sc_law_signs : FnScope [("signs" : Str)] [] (defScope s_law_signs) := ⟨rfl, rfl, rfl, by decide +kernel, rfl, by decide +kernel, by decide +kernel⟩
theorem o_law_signs {P : Program} {w : World} {K : PySem.W.Frag} {mg : Str → Option Value} {base : Heap} (Z : Zz P w K mg base) {fd : FuncData} (F : FunD K dd_law_signs.name dd_law_signs.qual dd_law_signs.params dd_law_signs.body dd_law_signs.scope (dd_law_signs.dvs K) (dd_law_signs.kws K) (He.fAd K dd_law_signs.at_) fd) : FnOk P w K mg base (L2.CX P w) 1 (He.fAd K dd_law_signs.at_) fd [] (sp_law_signs K) := by
  refine F.ok sc_law_signs (fun vs H Q E h => ?_) (fun cdv A outer s H vs Q E hr h => ⟨t_law_signs K E, PSs.nox ?_, pure_law_signs Z.k vs H Q E h⟩)
  · obtain ⟨_, e, _⟩ := h; rw [e]; rfl
  · exact pss_cons (ps_set (i := 0) sc_law_signs.nd rfl (by first | exact Or.inl rfl | exact Or.inr rfl) (pe_str)) (pss_one (ps_ret (pe_op op_add1 (pv 0) (pe_str))))
theorem d_law_signs {P : Program} {w : World} {K : PySem.W.Frag} {mg : Str → Option Value} {base : Heap} (Z : Zz P w K mg base) : DefOk P w K mg base "_law_signs" 1 [] [] (sp_law_signs K) := by
  obtain ⟨fd, F⟩ := Z.c.def_ 13 (d := dd_law_signs) rfl
  have b := F.bindsN (ps := []) fun _ _ _ _ _ _ us hl => match us, hl with | [], _ => rfl
  exact ⟨_, fd, [], o_law_signs Z F, (He.glo_ok Z.X Z.G (Z.k.fact 29 (f := .glo "_law_signs") rfl)), F.kp, b, .nil⟩
theorem sc_law_typed_line : FnScope [("pool" : Str), "signs", "line", "k", "pick"] [("pool" : Str)] (defScope s_law_typed_line) := ⟨rfl, rfl, rfl, by decide +kernel, rfl, by decide +kernel, by decide +kernel⟩
theorem o_law_typed_line {P : Program} {w : World} {K : PySem.W.Frag} {mg : Str → Option Value} {base : Heap} (Z : Zz P w K mg base) {fd : FuncData} (F : FunD K dd_law_typed_line.name dd_law_typed_line.qual dd_law_typed_line.params dd_law_typed_line.body dd_law_typed_line.scope (dd_law_typed_line.dvs K) (dd_law_typed_line.kws K) (He.fAd K dd_law_typed_line.at_) fd) : FnOk P w K mg base (L2.CX P w) 2 (He.fAd K dd_law_typed_line.at_) fd [("pool" : Str)] (sp_law_typed_line K) := by
  refine F.ok sc_law_typed_line (fun vs H Q E h => ?_) (fun cdv A outer s H vs Q E hr h => ⟨t_law_typed_line K E, PSs.nox ?_, pure_law_typed_line Z.k vs H Q E h⟩)
  · obtain ⟨_, _, _, _, _, _, _, _, e, _⟩ := h; rw [e]; rfl
  · exact pss_cons (ps_set (i := 1) sc_law_typed_line.nd rfl (by first | exact Or.inl rfl | exact Or.inr rfl) (pe_def0 (d_law_signs Z) (hr.mono (by first | decide | exact Nat.le_refl _)) (by rfl) passL)) (pss_cons (ps_set (i := 2) sc_law_typed_line.nd rfl (by first | exact Or.inl rfl | exact Or.inr rfl) (pe_str)) (pss_cons (ps_for PassesOwn.never rfl (pi_range1 (by rfl) (He.free_ok Z.X Z.G (Z.k.fact 9 (f := .free "range") rfl)) (pa_cons (pe_def (d_law_draw Z) (hr.mono (by first | decide | exact Nat.le_refl _)) (by rfl) passL (pa_cons (pv 0) (pa_cons (pe_int) (pa_nil)))) (pa_nil))) (pg_name (i := 3) sc_law_typed_line.nd rfl (by first | exact Or.inl rfl | exact Or.inr rfl)) (pss_cons (ps_set (i := 4) sc_law_typed_line.nd rfl (by first | exact Or.inl rfl | exact Or.inr rfl) (pe_def (d_law_draw Z) (hr.mono (by first | decide | exact Nat.le_refl _)) (by rfl) passL (pa_cons (pv 0) (pa_cons (pe_int) (pa_nil))))) (pss_one (ps_if (pt_cmpR op_lt (pv 4) (pe_int) (nomark _)) (pss_one (ps_set (i := 2) sc_law_typed_line.nd rfl (by first | exact Or.inl rfl | exact Or.inr rfl) (pe_op op_add1 (pv 2) (pe_ix ix_1 (pv 1) (pv 4) (fun _ _ => rfl))))) (pss_one (ps_set (i := 2) sc_law_typed_line.nd rfl (by first | exact Or.inl rfl | exact Or.inr rfl) (pe_op op_add1 (pv 2) (pe_str)))))))) (pss_one (ps_ret (pv 2)))))
theorem d_law_typed_line {P : Program} {w : World} {K : PySem.W.Frag} {mg : Str → Option Value} {base : Heap} (Z : Zz P w K mg base) : DefOk P w K mg base "_law_typed_line" 2 [("pool" : Str)] [] (sp_law_typed_line K) := by
  obtain ⟨fd, F⟩ := Z.c.def_ 14 (d := dd_law_typed_line) rfl
  have b := F.bindsN (ps := [("pool" : Str)]) fun _ _ _ _ _ _ us hl => match us, hl with | [_], _ => rfl
  exact ⟨_, fd, [], o_law_typed_line Z F, (He.glo_ok Z.X Z.G (Z.k.fact 30 (f := .glo "_law_typed_line") rfl)), F.kp, b, .nil⟩
theorem sc_law_typed_word : FnScope [("pool" : Str), "most", "share", "usual", "signs", "word", "k"] [("pool" : Str), "most", "share", "usual"] (defScope s_law_typed_word) := ⟨rfl, rfl, rfl, by decide +kernel, rfl, by decide +kernel, by decide +kernel⟩
theorem o_law_typed_word {P : Program} {w : World} {K : PySem.W.Frag} {mg : Str → Option Value} {base : Heap} (Z : Zz P w K mg base) {fd : FuncData} (F : FunD K dd_law_typed_word.name dd_law_typed_word.qual dd_law_typed_word.params dd_law_typed_word.body dd_law_typed_word.scope (dd_law_typed_word.dvs K) (dd_law_typed_word.kws K) (He.fAd K dd_law_typed_word.at_) fd) : FnOk P w K mg base (L2.CX P w) 2 (He.fAd K dd_law_typed_word.at_) fd [("pool" : Str), "most", "share", "usual"] (sp_law_typed_word K) := by
  refine F.ok sc_law_typed_word (fun vs H Q E h => ?_) (fun cdv A outer s H vs Q E hr h => ⟨t_law_typed_word K E, PSs.nox ?_, pure_law_typed_word Z.k vs H Q E h⟩)
  · obtain ⟨_, _, _, _, _, _, _, _, _, _, _, e, _⟩ := h; rw [e]; rfl
  · exact pss_cons (ps_set (i := 4) sc_law_typed_word.nd rfl (by first | exact Or.inl rfl | exact Or.inr rfl) (pe_def0 (d_law_signs Z) (hr.mono (by first | decide | exact Nat.le_refl _)) (by rfl) passL)) (pss_cons (ps_set (i := 5) sc_law_typed_word.nd rfl (by first | exact Or.inl rfl | exact Or.inr rfl) (pe_str)) (pss_cons (ps_for PassesOwn.never rfl (pi_range1 (by rfl) (He.free_ok Z.X Z.G (Z.k.fact 9 (f := .free "range") rfl)) (pa_cons (pe_def (d_law_draw Z) (hr.mono (by first | decide | exact Nat.le_refl _)) (by rfl) passL (pa_cons (pv 0) (pa_cons (pe_op op_add1 (pv 1) (pe_int)) (pa_nil)))) (pa_nil))) (pg_name (i := 6) sc_law_typed_word.nd rfl (by first | exact Or.inl rfl | exact Or.inr rfl)) (pss_one (ps_if (pt_cmpR (op_eq1 (hu64 hr)) (pe_def (d_law_draw Z) (hr.mono (by first | decide | exact Nat.le_refl _)) (by rfl) passL (pa_cons (pv 0) (pa_cons (pv 2) (pa_nil)))) (pe_int) (nomark _)) (pss_one (ps_set (i := 5) sc_law_typed_word.nd rfl (by first | exact Or.inl rfl | exact Or.inr rfl) (pe_op op_add1 (pv 5) (pe_ix ix_1 (pv 4) (pe_def (d_law_draw Z) (hr.mono (by first | decide | exact Nat.le_refl _)) (by rfl) passL (pa_cons (pv 0) (pa_cons (pe_int) (pa_nil)))) (fun _ _ => rfl))))) (pss_one (ps_set (i := 5) sc_law_typed_word.nd rfl (by first | exact Or.inl rfl | exact Or.inr rfl) (pe_op op_add1 (pv 5) (pe_ix ix_1 (pv 3) (pe_def (d_law_draw Z) (hr.mono (by first | decide | exact Nat.le_refl _)) (by rfl) passL (pa_cons (pv 0) (pa_cons (pe_callB call_len1 (by rfl) (He.free_ok Z.X Z.G (Z.k.fact 2 (f := .free "len") rfl)) (by decide +kernel) (pa_cons (pv 3) (pa_nil))) (pa_nil)))) (fun _ _ => rfl)))))))) (pss_one (ps_ret (pv 5)))))
theorem d_law_typed_word {P : Program} {w : World} {K : PySem.W.Frag} {mg : Str → Option Value} {base : Heap} (Z : Zz P w K mg base) : DefOk P w K mg base "_law_typed_word" 2 [("pool" : Str), "most", "share", "usual"] [] (sp_law_typed_word K) := by
  obtain ⟨fd, F⟩ := Z.c.def_ 15 (d := dd_law_typed_word) rfl
  have b := F.bindsN (ps := [("pool" : Str), "most", "share", "usual"]) fun _ _ _ _ _ _ us hl => match us, hl with | [_, _, _, _], _ => rfl
  exact ⟨_, fd, [], o_law_typed_word Z F, (He.glo_ok Z.X Z.G (Z.k.fact 31 (f := .glo "_law_typed_word") rfl)), F.kp, b, .nil⟩
theorem sc_law_cut_at_spaces : FnScope [("line" : Str), "words", "word", "sign"] [("line" : Str)] (defScope s_law_cut_at_spaces) := ⟨rfl, rfl, rfl, by decide +kernel, rfl, by decide +kernel, by decide +kernel⟩
theorem o_law_cut_at_spaces {P : Program} {w : World} {K : PySem.W.Frag} {mg : Str → Option Value} {base : Heap} (Z : Zz P w K mg base) {fd : FuncData} (F : FunD K dd_law_cut_at_spaces.name dd_law_cut_at_spaces.qual dd_law_cut_at_spaces.params dd_law_cut_at_spaces.body dd_law_cut_at_spaces.scope (dd_law_cut_at_spaces.dvs K) (dd_law_cut_at_spaces.kws K) (He.fAd K dd_law_cut_at_spaces.at_) fd) : FnOk P w K mg base (L2.CX P w) 1 (He.fAd K dd_law_cut_at_spaces.at_) fd [("line" : Str)] (sp_law_cut_at_spaces K) := by
  refine F.ok sc_law_cut_at_spaces (fun vs H Q E h => ?_) (fun cdv A outer s H vs Q E hr h => ⟨t_law_cut_at_spaces K E, PSs.nox ?_, pure_law_cut_at_spaces Z.k vs H Q E h⟩)
  · obtain ⟨_, e, _⟩ := h; rw [e]; rfl
  · exact pss_cons (ps_set (i := 1) sc_law_cut_at_spaces.nd rfl (by first | exact Or.inl rfl | exact Or.inr rfl) (pe_lst (pa_nil))) (pss_cons (ps_set (i := 2) sc_law_cut_at_spaces.nd rfl (by first | exact Or.inl rfl | exact Or.inr rfl) (pe_str)) (pss_cons (ps_for PassesOwn.never rfl (pi_str (pv 0)) (pg_name (i := 3) sc_law_cut_at_spaces.nd rfl (by first | exact Or.inl rfl | exact Or.inr rfl)) (pss_one (ps_if (pt_cmpR (op_ne1 (hu64 hr)) (pv 3) (pe_str) (nomark _)) (pss_one (ps_set (i := 2) sc_law_cut_at_spaces.nd rfl (by first | exact Or.inl rfl | exact Or.inr rfl) (pe_op op_add1 (pv 2) (pv 3)))) (pss_one (ps_if (pt_cmpR (op_ne1 (hu64 hr)) (pv 2) (pe_str) (nomark _)) (pss_cons (ps_expr (pe_bm PySem.F.plainAttrs_list PySem.F.slot_list_append PySem.F.type_list_append mt_append (pv 1) (pa_cons (pv 2) (pa_nil)))) (pss_one (ps_set (i := 2) sc_law_cut_at_spaces.nd rfl (by first | exact Or.inl rfl | exact Or.inr rfl) (pe_str)))) (pss_nil)))))) (C8.pss_cut (ps_if (pt_cmpR (op_ne1 (hu64 hr)) (pv 2) (pe_str) (nomark _)) (pss_one (ps_expr (pe_bm PySem.F.plainAttrs_list PySem.F.slot_list_append PySem.F.type_list_append mt_append (pv 1) (pa_cons (pv 2) (pa_nil))))) (pss_nil)) (pss_one (ps_ret (pv 1))))))
theorem d_law_cut_at_spaces {P : Program} {w : World} {K : PySem.W.Frag} {mg : Str → Option Value} {base : Heap} (Z : Zz P w K mg base) : DefOk P w K mg base "_law_cut_at_spaces" 1 [("line" : Str)] [] (sp_law_cut_at_spaces K) := by
  obtain ⟨fd, F⟩ := Z.c.def_ 16 (d := dd_law_cut_at_spaces) rfl
  have b := F.bindsN (ps := [("line" : Str)]) fun _ _ _ _ _ _ us hl => match us, hl with | [_], _ => rfl
  exact ⟨_, fd, [], o_law_cut_at_spaces Z F, (He.glo_ok Z.X Z.G (Z.k.fact 32 (f := .glo "_law_cut_at_spaces") rfl)), F.kp, b, .nil⟩
theorem sc_law_number_due : FnScope [("word" : Str), "total", "sign", "figure"] [("word" : Str)] (defScope s_law_number_due) := ⟨rfl, rfl, rfl, by decide +kernel, rfl, by decide +kernel, by decide +kernel⟩
theorem o_law_number_due {P : Program} {w : World} {K : PySem.W.Frag} {mg : Str → Option Value} {base : Heap} (Z : Zz P w K mg base) {fd : FuncData} (F : FunD K dd_law_number_due.name dd_law_number_due.qual dd_law_number_due.params dd_law_number_due.body dd_law_number_due.scope (dd_law_number_due.dvs K) (dd_law_number_due.kws K) (He.fAd K dd_law_number_due.at_) fd) : FnOk P w K mg base (L2.CX P w) 1 (He.fAd K dd_law_number_due.at_) fd [("word" : Str)] (sp_law_number_due K) := by
  refine F.ok sc_law_number_due (fun vs H Q E h => ?_) (fun cdv A outer s H vs Q E hr h => ⟨t_law_number_due K E, PSs.nox ?_, pure_law_number_due Z.k vs H Q E h⟩)
  · obtain ⟨_, e, _⟩ := h; rw [e]; rfl
  · exact pss_cons (ps_if (PW.pt (pw_or (pt_cmpR op_lt (pe_callB call_len1 (by rfl) (He.free_ok Z.X Z.G (Z.k.fact 2 (f := .free "len") rfl)) (by decide +kernel) (pa_cons (pv 0) (pa_nil))) (pe_int) (nomark _)) (pw_or1 (pt_cmpR op_gt (pe_callB call_len1 (by rfl) (He.free_ok Z.X Z.G (Z.k.fact 2 (f := .free "len") rfl)) (by decide +kernel) (pa_cons (pv 0) (pa_nil))) (pe_int) (nomark _))))) (pss_one (ps_ret (pe_non))) (pss_nil)) (pss_cons (ps_set (i := 1) sc_law_number_due.nd rfl (by first | exact Or.inl rfl | exact Or.inr rfl) (pe_int)) (pss_cons (ps_for PassesOwn.never rfl (pi_str (pv 0)) (pg_name (i := 2) sc_law_number_due.nd rfl (by first | exact Or.inl rfl | exact Or.inr rfl)) (pss_cons (ps_set (i := 3) sc_law_number_due.nd rfl (by first | exact Or.inl rfl | exact Or.inr rfl) (pe_find1 (pe_str) (pv 2))) (pss_cons (ps_if (pt_cmpR op_lt (pv 3) (pe_int) (nomark _)) (pss_one (ps_ret (pe_non))) (pss_nil)) (pss_one (ps_set (i := 1) sc_law_number_due.nd rfl (by first | exact Or.inl rfl | exact Or.inr rfl) (pe_op op_add1 (pe_op op_mul1 (pe_int) (pv 1)) (pv 3))))))) (pss_cons (ps_if (PW.pt (pw_and (pt_cmpR (op_eq1 (hu64 hr)) (pe_ix ix_1 (pv 0) (pe_int) (fun _ _ => rfl)) (pe_str) (nomark _)) (pw_and1 (pt_cmpR op_gt (pe_callB call_len1 (by rfl) (He.free_ok Z.X Z.G (Z.k.fact 2 (f := .free "len") rfl)) (by decide +kernel) (pa_cons (pv 0) (pa_nil))) (pe_int) (nomark _))))) (pss_one (ps_ret (pe_non))) (pss_nil)) (pss_one (ps_ret (pv 1))))))
theorem d_law_number_due {P : Program} {w : World} {K : PySem.W.Frag} {mg : Str → Option Value} {base : Heap} (Z : Zz P w K mg base) : DefOk P w K mg base "_law_number_due" 1 [("word" : Str)] [] (sp_law_number_due K) := by
  obtain ⟨fd, F⟩ := Z.c.def_ 17 (d := dd_law_number_due) rfl
  have b := F.bindsN (ps := [("word" : Str)]) fun _ _ _ _ _ _ us hl => match us, hl with | [_], _ => rfl
  exact ⟨_, fd, [], o_law_number_due Z F, (He.glo_ok Z.X Z.G (Z.k.fact 33 (f := .glo "_law_number_due") rfl)), F.kp, b, .nil⟩
theorem sc_law_first_part : FnScope [("script" : Str), "pool", "line", "words", "told", "others", "k", "word"] [("script" : Str)] (defScope s_law_first_part) := ⟨rfl, rfl, rfl, by decide +kernel, rfl, by decide +kernel, by decide +kernel⟩
theorem o_law_first_part {P : Program} {w : World} {K : PySem.W.Frag} {mg : Str → Option Value} {base : Heap} (Z : Zz P w K mg base) {fd : FuncData} (F : FunD K dd_law_first_part.name dd_law_first_part.qual dd_law_first_part.params dd_law_first_part.body dd_law_first_part.scope (dd_law_first_part.dvs K) (dd_law_first_part.kws K) (He.fAd K dd_law_first_part.at_) fd) : FnOk P w K mg base (L2.CX P w) 6 (He.fAd K dd_law_first_part.at_) fd [("script" : Str)] (sp_law_first_part K) := by
  refine F.ok sc_law_first_part (fun vs H Q E h => ?_) (fun cdv A outer s H vs Q E hr h => ⟨t_law_first_part K E, PSs.nox ?_, pure_law_first_part Z.k vs H Q E h⟩)
  · obtain ⟨_, _, e, _⟩ := h; rw [e]; rfl
  · exact pss_cons (ps_set (i := 1) sc_law_first_part.nd rfl (by first | exact Or.inl rfl | exact Or.inr rfl) (pe_def (d_law_pool Z) (hr.mono (by first | decide | exact Nat.le_refl _)) (by rfl) passL (pa_cons (pv 0) (pa_cons (pe_int) (pa_nil))))) (pss_cons (ps_set (i := 2) sc_law_first_part.nd rfl (by first | exact Or.inl rfl | exact Or.inr rfl) (pe_def (d_law_typed_line Z) (hr.mono (by first | decide | exact Nat.le_refl _)) (by rfl) passL (pa_cons (pv 1) (pa_nil)))) (C8.pss_cut (ps_if (pt_cmpR (op_eq1 (hu64 hr)) (pe_def (d_law_draw Z) (hr.mono (by first | decide | exact Nat.le_refl _)) (by rfl) passL (pa_cons (pv 1) (pa_cons (pe_int) (pa_nil)))) (pe_int) (nomark _)) (pss_one (ps_set (i := 2) sc_law_first_part.nd rfl (by first | exact Or.inl rfl | exact Or.inr rfl) (pe_op op_mul1 (pv 2) (pe_op op_add1 (pe_int) (pe_def (d_law_draw Z) (hr.mono (by first | decide | exact Nat.le_refl _)) (by rfl) passL (pa_cons (pv 1) (pa_cons (pe_int) (pa_nil)))))))) (pss_nil)) (pss_cons (ps_set (i := 3) sc_law_first_part.nd rfl (by first | exact Or.inl rfl | exact Or.inr rfl) (pe_def (d_law_cut_at_spaces Z) (hr.mono (by first | decide | exact Nat.le_refl _)) (by rfl) passL (pa_cons (pv 2) (pa_nil)))) (pss_cons (ps_set (i := 4) sc_law_first_part.nd rfl (by first | exact Or.inl rfl | exact Or.inr rfl) (pe_def (d_words_of Z) (hr.mono (by first | decide | exact Nat.le_refl _)) (by rfl) passL (pa_cons (pv 2) (pa_nil)))) (pss_cons (ps_if (pt_not (pt_tr (pe_def (d_law_same Z 4) (hr.mono (by first | decide | exact Nat.le_refl _)) (by rfl) passL (pa_cons (pv 4) (pa_cons (pv 3) (pa_nil)))) (by intro _; rfl))) (pss_one (ps_ret (pe_bl))) (pss_nil)) (pss_cons (ps_expr (pe_bm PySem.F.plainAttrs_list PySem.F.slot_list_append PySem.F.type_list_append mt_append (pv 4) (pa_cons (pe_str) (pa_nil)))) (pss_cons (ps_if (pt_not (pt_tr (pe_def (d_law_same Z 4) (hr.mono (by first | decide | exact Nat.le_refl _)) (by rfl) passL (pa_cons (pe_def (d_words_of Z) (hr.mono (by first | decide | exact Nat.le_refl _)) (by rfl) passL (pa_cons (pv 2) (pa_nil))) (pa_cons (pv 3) (pa_nil)))) (by intro _; rfl))) (pss_one (ps_ret (pe_bl))) (pss_nil)) (pss_cons (ps_set (i := 5) sc_law_first_part.nd rfl (by first | exact Or.inl rfl | exact Or.inr rfl) (pe_lst (pa_cons (pe_str) (pa_cons (pe_str) (pa_cons (pe_str) (pa_cons (pe_str) (pa_cons (pe_str) (pa_cons (pe_str) (pa_nil))))))))) (pss_cons (ps_set (i := 1) sc_law_first_part.nd rfl (by first | exact Or.inl rfl | exact Or.inr rfl) (pe_def (d_law_pool Z) (hr.mono (by first | decide | exact Nat.le_refl _)) (by rfl) passL (pa_cons (pv 0) (pa_cons (pe_int) (pa_nil))))) (pss_cons (ps_for PassesOwn.never rfl (pi_range1 (by rfl) (He.free_ok Z.X Z.G (Z.k.fact 9 (f := .free "range") rfl)) (pa_cons (pe_int) (pa_nil))) (pg_name (i := 6) sc_law_first_part.nd rfl (by first | exact Or.inl rfl | exact Or.inr rfl)) (pss_one (ps_expr (pe_bm PySem.F.plainAttrs_list PySem.F.slot_list_append PySem.F.type_list_append mt_append (pv 5) (pa_cons (pe_def (d_law_typed_word Z) (hr.mono (by first | decide | exact Nat.le_refl _)) (by rfl) passL (pa_cons (pv 1) (pa_cons (pe_int) (pa_cons (pe_int) (pa_cons (pe_str) (pa_nil)))))) (pa_nil)))))) (pss_cons (ps_set (i := 1) sc_law_first_part.nd rfl (by first | exact Or.inl rfl | exact Or.inr rfl) (pe_def (d_law_pool Z) (hr.mono (by first | decide | exact Nat.le_refl _)) (by rfl) passL (pa_cons (pv 0) (pa_cons (pe_int) (pa_nil))))) (pss_cons (ps_for PassesOwn.never rfl (pi_range1 (by rfl) (He.free_ok Z.X Z.G (Z.k.fact 9 (f := .free "range") rfl)) (pa_cons (pe_int) (pa_nil))) (pg_name (i := 6) sc_law_first_part.nd rfl (by first | exact Or.inl rfl | exact Or.inr rfl)) (pss_one (ps_expr (pe_bm PySem.F.plainAttrs_list PySem.F.slot_list_append PySem.F.type_list_append mt_append (pv 5) (pa_cons (pe_def (d_law_typed_word Z) (hr.mono (by first | decide | exact Nat.le_refl _)) (by rfl) passL (pa_cons (pv 1) (pa_cons (pe_int) (pa_cons (pe_int) (pa_cons (pe_str) (pa_nil)))))) (pa_nil)))))) (pss_cons (ps_for PassesOwn.never rfl (pi_sq1 (pe_op op_add1 (pv 3) (pv 5))) (pg_name (i := 7) sc_law_first_part.nd rfl (by first | exact Or.inl rfl | exact Or.inr rfl)) (pss_cons (ps_if (pt_not (pt_tr (pe_def (d_law_same Z 4) (hr.mono (by first | decide | exact Nat.le_refl _)) (by rfl) passL (pa_cons (pe_def (d_number_of Z) (hr.mono (by first | decide | exact Nat.le_refl _)) (by rfl) passL (pa_cons (pv 7) (pa_nil))) (pa_cons (pe_def (d_law_number_due Z) (hr.mono (by first | decide | exact Nat.le_refl _)) (by rfl) passL (pa_cons (pv 7) (pa_nil))) (pa_nil)))) (by intro _; rfl))) (pss_one (ps_ret (pe_bl))) (pss_nil)) (pss_one (ps_if (pt_not (pt_tr (pe_def (d_law_same Z 4) (hr.mono (by first | decide | exact Nat.le_refl _)) (by rfl) passL (pa_cons (pe_def (d_is_name Z) (hr.mono (by first | decide | exact Nat.le_refl _)) (by rfl) passL (pa_cons (pv 7) (pa_nil))) (pa_cons (pe_def (d_law_is_name Z) (hr.mono (by first | decide | exact Nat.le_refl _)) (by rfl) passL (pa_cons (pv 7) (pa_nil))) (pa_nil)))) (by intro _; rfl))) (pss_one (ps_ret (pe_bl))) (pss_nil))))) (pss_one (ps_ret (pe_bl))))))))))))))))
theorem d_law_first_part {P : Program} {w : World} {K : PySem.W.Frag} {mg : Str → Option Value} {base : Heap} (Z : Zz P w K mg base) : DefOk P w K mg base "_law_first_part" 6 [("script" : Str)] [] (sp_law_first_part K) := by
  obtain ⟨fd, F⟩ := Z.c.def_ 18 (d := dd_law_first_part) rfl
  have b := F.bindsN (ps := [("script" : Str)]) fun _ _ _ _ _ _ us hl => match us, hl with | [_], _ => rfl
  exact ⟨_, fd, [], o_law_first_part Z F, (He.glo_ok Z.X Z.G (Z.k.fact 34 (f := .glo "_law_first_part") rfl)), F.kp, b, .nil⟩
theorem sc_law_bits : FnScope [("value" : Str), "count", "k"] [("value" : Str), "count"] (defScope s_law_bits) := ⟨rfl, rfl, rfl, by decide +kernel, rfl, by decide +kernel, by decide +kernel⟩
theorem o_law_bits {P : Program} {w : World} {K : PySem.W.Frag} {mg : Str → Option Value} {base : Heap} (Z : Zz P w K mg base) {fd : FuncData} (F : FunD K dd_law_bits.name dd_law_bits.qual dd_law_bits.params dd_law_bits.body dd_law_bits.scope (dd_law_bits.dvs K) (dd_law_bits.kws K) (He.fAd K dd_law_bits.at_) fd) : FnOk P w K mg base (L2.CX P w) 1 (He.fAd K dd_law_bits.at_) fd [("value" : Str), "count"] (sp_law_bits K) := by
  refine F.ok sc_law_bits (fun vs H Q E h => ?_) (fun cdv A outer s H vs Q E hr h => ⟨t_law_bits K E, PSs.nox ?_, pure_law_bits Z.k vs H Q E h⟩)
  · obtain ⟨_, _, e, _⟩ := h; rw [e]; rfl
  · exact pss_one (ps_ret (pe_lc (own := [("k", 2)]) rfl sc_law_bits.nd (pi_range1 (by rfl) (He.free_ok Z.X Z.G (Z.k.fact 9 (f := .free "range") rfl)) (pa_cons (pv 1) (pa_nil))) (blkOk_by (N := [("value" : Str), "count", "k"]) (sc := defScope s_law_bits) (by decide +kernel)) (fun _ _ _ _ _ => pg_name (i := 2) sc_law_bits.nd rfl (by first | exact Or.inl rfl | exact Or.inr rfl)) (fun _ _ _ _ _ => pts_nil) (fun _ _ _ _ _ => pe_op op_band1 (pe_op op_shr1 (pv 0) (pv 2)) (pe_int))))
theorem d_law_bits {P : Program} {w : World} {K : PySem.W.Frag} {mg : Str → Option Value} {base : Heap} (Z : Zz P w K mg base) : DefOk P w K mg base "_law_bits" 1 [("value" : Str), "count"] [] (sp_law_bits K) := by
  obtain ⟨fd, F⟩ := Z.c.def_ 19 (d := dd_law_bits) rfl
  have b := F.bindsN (ps := [("value" : Str), "count"]) fun _ _ _ _ _ _ us hl => match us, hl with | [_, _], _ => rfl
  exact ⟨_, fd, [], o_law_bits Z F, (He.glo_ok Z.X Z.G (Z.k.fact 35 (f := .glo "_law_bits") rfl)), F.kp, b, .nil⟩
theorem sc_law_number : FnScope [("bits" : Str), "total", "k"] [("bits" : Str)] (defScope s_law_number) := ⟨rfl, rfl, rfl, by decide +kernel, rfl, by decide +kernel, by decide +kernel⟩
theorem o_law_number {P : Program} {w : World} {K : PySem.W.Frag} {mg : Str → Option Value} {base : Heap} (Z : Zz P w K mg base) {fd : FuncData} (F : FunD K dd_law_number.name dd_law_number.qual dd_law_number.params dd_law_number.body dd_law_number.scope (dd_law_number.dvs K) (dd_law_number.kws K) (He.fAd K dd_law_number.at_) fd) : FnOk P w K mg base (L2.CX P w) 1 (He.fAd K dd_law_number.at_) fd [("bits" : Str)] (sp_law_number K) := by
  refine F.ok sc_law_number (fun vs H Q E h => ?_) (fun cdv A outer s H vs Q E hr h => ⟨t_law_number K E, PSs.nox ?_, pure_law_number Z.k vs H Q E h⟩)
  · obtain ⟨_, _, _, e, _⟩ := h; rw [e]; rfl
  · exact pss_cons (ps_set (i := 1) sc_law_number.nd rfl (by first | exact Or.inl rfl | exact Or.inr rfl) (pe_int)) (pss_cons (ps_for PassesOwn.never rfl (pi_range1 (by rfl) (He.free_ok Z.X Z.G (Z.k.fact 9 (f := .free "range") rfl)) (pa_cons (pe_callB call_len1 (by rfl) (He.free_ok Z.X Z.G (Z.k.fact 2 (f := .free "len") rfl)) (by decide +kernel) (pa_cons (pv 0) (pa_nil))) (pa_nil))) (pg_name (i := 2) sc_law_number.nd rfl (by first | exact Or.inl rfl | exact Or.inr rfl)) (pss_one (ps_set (i := 1) sc_law_number.nd rfl (by first | exact Or.inl rfl | exact Or.inr rfl) (pe_op op_add1 (pv 1) (pe_op op_shl1 (pe_ix ix_1 (pv 0) (pv 2) (fun _ _ => rfl)) (pv 2)))))) (pss_one (ps_ret (pv 1))))
theorem d_law_number {P : Program} {w : World} {K : PySem.W.Frag} {mg : Str → Option Value} {base : Heap} (Z : Zz P w K mg base) : DefOk P w K mg base "_law_number" 1 [("bits" : Str)] [] (sp_law_number K) := by
  obtain ⟨fd, F⟩ := Z.c.def_ 20 (d := dd_law_number) rfl
  have b := F.bindsN (ps := [("bits" : Str)]) fun _ _ _ _ _ _ us hl => match us, hl with | [_], _ => rfl
  exact ⟨_, fd, [], o_law_number Z F, (He.glo_ok Z.X Z.G (Z.k.fact 36 (f := .glo "_law_number") rfl)), F.kp, b, .nil⟩
theorem sc_law_fixed_right : FnScope [("table" : Str), "answers", "x", "y", "pairs", "one", "pair", "two", "both"] [("table" : Str), "answers", "x", "y"] (defScope s_law_fixed_right) := ⟨rfl, rfl, rfl, by decide +kernel, rfl, by decide +kernel, by decide +kernel⟩
theorem o_law_fixed_right {P : Program} {w : World} {K : PySem.W.Frag} {mg : Str → Option Value} {base : Heap} (Z : Zz P w K mg base) {fd : FuncData} (F : FunD K dd_law_fixed_right.name dd_law_fixed_right.qual dd_law_fixed_right.params dd_law_fixed_right.body dd_law_fixed_right.scope (dd_law_fixed_right.dvs K) (dd_law_fixed_right.kws K) (He.fAd K dd_law_fixed_right.at_) fd) : FnOk P w K mg base (L2.CX P w) 6 (He.fAd K dd_law_fixed_right.at_) fd [("table" : Str), "answers", "x", "y"] (sp_law_fixed_right K) := by
  refine F.ok sc_law_fixed_right (fun vs H Q E h => ?_) (fun cdv A outer s H vs Q E hr h => ⟨t_law_fixed_right K E, PSs.nox ?_, pure_law_fixed_right Z.k vs H Q E h⟩)
  · obtain ⟨_, _, _, _, e, _⟩ := h; rw [e]; rfl
  · exact pss_cons (ps_set (i := 4) sc_law_fixed_right.nd rfl (by first | exact Or.inl rfl | exact Or.inr rfl) (pe_lst (pa_cons (pe_tup (pa_cons (pe_int) (pa_cons (pe_int) (pa_nil)))) (pa_cons (pe_tup (pa_cons (pe_int) (pa_cons (pe_int) (pa_nil)))) (pa_cons (pe_tup (pa_cons (pe_int) (pa_cons (pe_int) (pa_nil)))) (pa_cons (pe_tup (pa_cons (pe_int) (pa_cons (pe_int) (pa_nil)))) (pa_nil))))))) (pss_cons (ps_set (i := 5) sc_law_fixed_right.nd rfl (by first | exact Or.inl rfl | exact Or.inr rfl) (pe_def (d_law_number Z) (hr.mono (by first | decide | exact Nat.le_refl _)) (by rfl) passL (pa_cons (pe_lc (own := [("pair", 6)]) rfl sc_law_fixed_right.nd (pi_sq1 (pv 4)) (blkOk_by (N := [("table" : Str), "answers", "x", "y", "pairs", "one", "pair", "two", "both"]) (sc := defScope s_law_fixed_right) (by decide +kernel)) (fun _ _ _ _ _ => pg_name (i := 6) sc_law_fixed_right.nd rfl (by first | exact Or.inl rfl | exact Or.inr rfl)) (fun _ _ _ _ _ => pts_nil) (fun _ _ _ _ _ => pe_ix ix_1 (pv 1) (pe_op op_add1 (pe_op op_mul1 (pe_int) (pv 2)) (pe_ix ix_1 (pv 6) (pe_int) (fun _ _ => rfl))) (fun _ _ => rfl))) (pa_nil)))) (pss_cons (ps_set (i := 7) sc_law_fixed_right.nd rfl (by first | exact Or.inl rfl | exact Or.inr rfl) (pe_def (d_law_number Z) (hr.mono (by first | decide | exact Nat.le_refl _)) (by rfl) passL (pa_cons (pe_lc (own := [("pair", 6)]) rfl sc_law_fixed_right.nd (pi_sq1 (pv 4)) (blkOk_by (N := [("table" : Str), "answers", "x", "y", "pairs", "one", "pair", "two", "both"]) (sc := defScope s_law_fixed_right) (by decide +kernel)) (fun _ _ _ _ _ => pg_name (i := 6) sc_law_fixed_right.nd rfl (by first | exact Or.inl rfl | exact Or.inr rfl)) (fun _ _ _ _ _ => pts_nil) (fun _ _ _ _ _ => pe_ix ix_1 (pv 1) (pe_op op_add1 (pe_op op_mul1 (pe_int) (pe_ix ix_1 (pv 6) (pe_int) (fun _ _ => rfl))) (pv 3)) (fun _ _ => rfl))) (pa_nil)))) (pss_cons (ps_if (PW.pt (pw_or (pt_not (pt_tr (pe_def (d_law_same Z 4) (hr.mono (by first | decide | exact Nat.le_refl _)) (by rfl) passL (pa_cons (pe_defK (k_kb_fixed_1_first Z) (hr.mono (by first | decide | exact Nat.le_refl _)) (by rfl) passL (pa_cons (pv 0) (pa_nil)) (pk_cons (pv 2) (pk_nil))) (pa_cons (pv 5) (pa_nil)))) (by intro _; rfl))) (pw_or1 (pt_not (pt_tr (pe_def (d_law_same Z 4) (hr.mono (by first | decide | exact Nat.le_refl _)) (by rfl) passL (pa_cons (pe_defK (k_kb_fixed_1_first_second Z) (hr.mono (by first | decide | exact Nat.le_refl _)) (by rfl) passL (pa_cons (pv 0) (pa_nil)) (pk_cons (pv 2) (pk_cons (pe_non) (pk_nil)))) (pa_cons (pv 5) (pa_nil)))) (by intro _; rfl)))))) (pss_one (ps_ret (pe_bl))) (pss_nil)) (pss_cons (ps_if (PW.pt (pw_or (pt_not (pt_tr (pe_def (d_law_same Z 4) (hr.mono (by first | decide | exact Nat.le_refl _)) (by rfl) passL (pa_cons (pe_defK (k_kb_fixed_1_second Z) (hr.mono (by first | decide | exact Nat.le_refl _)) (by rfl) passL (pa_cons (pv 0) (pa_nil)) (pk_cons (pv 3) (pk_nil))) (pa_cons (pv 7) (pa_nil)))) (by intro _; rfl))) (pw_or1 (pt_not (pt_tr (pe_def (d_law_same Z 4) (hr.mono (by first | decide | exact Nat.le_refl _)) (by rfl) passL (pa_cons (pe_defK (k_kb_fixed_1_first_second Z) (hr.mono (by first | decide | exact Nat.le_refl _)) (by rfl) passL (pa_cons (pv 0) (pa_nil)) (pk_cons (pe_non) (pk_cons (pv 3) (pk_nil)))) (pa_cons (pv 7) (pa_nil)))) (by intro _; rfl)))))) (pss_one (ps_ret (pe_bl))) (pss_nil)) (pss_cons (ps_set (i := 8) sc_law_fixed_right.nd rfl (by first | exact Or.inl rfl | exact Or.inr rfl) (pe_op op_mul1 (pe_int) (pe_ix ix_1 (pv 1) (pe_op op_add1 (pe_op op_mul1 (pe_int) (pv 2)) (pv 3)) (fun _ _ => rfl)))) (pss_cons (ps_if (pt_not (pt_tr (pe_def (d_law_same Z 4) (hr.mono (by first | decide | exact Nat.le_refl _)) (by rfl) passL (pa_cons (pe_defK (k_kb_fixed_1_first_second Z) (hr.mono (by first | decide | exact Nat.le_refl _)) (by rfl) passL (pa_cons (pv 0) (pa_nil)) (pk_cons (pv 2) (pk_cons (pv 3) (pk_nil)))) (pa_cons (pv 8) (pa_nil)))) (by intro _; rfl))) (pss_one (ps_ret (pe_bl))) (pss_nil)) (pss_one (ps_ret (pe_def (d_law_same Z 4) (hr.mono (by first | decide | exact Nat.le_refl _)) (by rfl) passL (pa_cons (pe_defK (k_kb_fixed_1_second_first Z) (hr.mono (by first | decide | exact Nat.le_refl _)) (by rfl) passL (pa_cons (pv 0) (pa_nil)) (pk_cons (pv 3) (pk_cons (pv 2) (pk_nil)))) (pa_cons (pv 8) (pa_nil))))))))))))
theorem d_law_fixed_right {P : Program} {w : World} {K : PySem.W.Frag} {mg : Str → Option Value} {base : Heap} (Z : Zz P w K mg base) : DefOk P w K mg base "_law_fixed_right" 6 [("table" : Str), "answers", "x", "y"] [] (sp_law_fixed_right K) := by
  obtain ⟨fd, F⟩ := Z.c.def_ 21 (d := dd_law_fixed_right) rfl
  have b := F.bindsN (ps := [("table" : Str), "answers", "x", "y"]) fun _ _ _ _ _ _ us hl => match us, hl with | [_, _, _, _], _ => rfl
  exact ⟨_, fd, [], o_law_fixed_right Z F, (He.glo_ok Z.X Z.G (Z.k.fact 37 (f := .glo "_law_fixed_right") rfl)), F.kp, b, .nil⟩
theorem sc_law_right : FnScope [("table" : Str), "answers", "pairs", "pair", "x", "y", "turned", "other", "on_x", "on_y"] [("table" : Str)] (defScope s_law_right) := ⟨rfl, rfl, rfl, by decide +kernel, rfl, by decide +kernel, by decide +kernel⟩
theorem o_law_right {P : Program} {w : World} {K : PySem.W.Frag} {mg : Str → Option Value} {base : Heap} (Z : Zz P w K mg base) {fd : FuncData} (F : FunD K dd_law_right.name dd_law_right.qual dd_law_right.params dd_law_right.body dd_law_right.scope (dd_law_right.dvs K) (dd_law_right.kws K) (He.fAd K dd_law_right.at_) fd) : FnOk P w K mg base (L2.CX P w) 7 (He.fAd K dd_law_right.at_) fd [("table" : Str)] (sp_law_right K) := by
  refine F.ok sc_law_right (fun vs H Q E h => ?_) (fun cdv A outer s H vs Q E hr h => ⟨t_law_right K E, PSs.nox ?_, pure_law_right Z.k vs H Q E h⟩)
  · obtain ⟨_, e, _⟩ := h; rw [e]; rfl
  · exact pss_cons (ps_set (i := 1) sc_law_right.nd rfl (by first | exact Or.inl rfl | exact Or.inr rfl) (pe_def (d_law_bits Z) (hr.mono (by first | decide | exact Nat.le_refl _)) (by rfl) passL (pa_cons (pv 0) (pa_cons (pe_int) (pa_nil))))) (pss_cons (ps_set (i := 2) sc_law_right.nd rfl (by first | exact Or.inl rfl | exact Or.inr rfl) (pe_lst (pa_cons (pe_tup (pa_cons (pe_int) (pa_cons (pe_int) (pa_nil)))) (pa_cons (pe_tup (pa_cons (pe_int) (pa_cons (pe_int) (pa_nil)))) (pa_cons (pe_tup (pa_cons (pe_int) (pa_cons (pe_int) (pa_nil)))) (pa_cons (pe_tup (pa_cons (pe_int) (pa_cons (pe_int) (pa_nil)))) (pa_nil))))))) (pss_cons (ps_for PassesOwn.never rfl (pi_sq1 (pv 2)) (pg_name (i := 3) sc_law_right.nd rfl (by first | exact Or.inl rfl | exact Or.inr rfl)) (pss_cons (ps_set (i := 4) sc_law_right.nd rfl (by first | exact Or.inl rfl | exact Or.inr rfl) (pe_ix ix_1 (pv 3) (pe_int) (fun _ _ => rfl))) (pss_cons (ps_set (i := 5) sc_law_right.nd rfl (by first | exact Or.inl rfl | exact Or.inr rfl) (pe_ix ix_1 (pv 3) (pe_int) (fun _ _ => rfl))) (pss_cons (ps_if (pt_not (pt_tr (pe_def (d_law_same Z 4) (hr.mono (by first | decide | exact Nat.le_refl _)) (by rfl) passL (pa_cons (pe_def (d_lookup Z) (hr.mono (by first | decide | exact Nat.le_refl _)) (by rfl) passL (pa_cons (pv 0) (pa_cons (pv 4) (pa_cons (pv 5) (pa_nil))))) (pa_cons (pe_ix ix_1 (pv 1) (pe_op op_add1 (pe_op op_mul1 (pe_int) (pv 4)) (pv 5)) (fun _ _ => rfl)) (pa_nil)))) (by intro _; rfl))) (pss_one (ps_ret (pe_bl))) (pss_nil)) (pss_cons (ps_setLc (i := 6) (own := [("other", 7)]) rfl sc_law_right.nd rfl rfl (sw_true rfl rfl rfl (by decide +kernel)) (pi_sq1 (pv 2)) (blkOk_by (N := [("table" : Str), "answers", "pairs", "pair", "x", "y", "turned", "other", "on_x", "on_y"]) (sc := defScope s_law_right) (by decide +kernel)) (fun _ _ _ _ _ => pg_name (i := 7) sc_law_right.nd rfl (by first | exact Or.inl rfl | exact Or.inr rfl)) (fun _ _ _ _ _ => pts_nil) (fun _ _ _ _ _ => pe_ix ix_1 (pv 1) (pe_op op_add1 (pe_op op_mul1 (pe_int) (pe_op op_bxor1 (pe_ix ix_1 (pv 7) (pe_int) (fun _ _ => rfl)) (pv 4))) (pe_op op_bxor1 (pe_ix ix_1 (pv 7) (pe_int) (fun _ _ => rfl)) (pv 5))) (fun _ _ => rfl))) (pss_cons (ps_if (pt_not (pt_tr (pe_def (d_law_same Z 4) (hr.mono (by first | decide | exact Nat.le_refl _)) (by rfl) passL (pa_cons (pe_def (d_inverted Z) (hr.mono (by first | decide | exact Nat.le_refl _)) (by rfl) passL (pa_cons (pv 0) (pa_cons (pv 4) (pa_cons (pv 5) (pa_nil))))) (pa_cons (pe_def (d_law_number Z) (hr.mono (by first | decide | exact Nat.le_refl _)) (by rfl) passL (pa_cons (pv 6) (pa_nil))) (pa_nil)))) (by intro _; rfl))) (pss_one (ps_ret (pe_bl))) (pss_nil)) (pss_one (ps_if (pt_not (pt_tr (pe_def (d_law_fixed_right Z) (hr.mono (by first | decide | exact Nat.le_refl _)) (by rfl) passL (pa_cons (pv 0) (pa_cons (pv 1) (pa_cons (pv 4) (pa_cons (pv 5) (pa_nil)))))) (by intro _; rfl))) (pss_one (ps_ret (pe_bl))) (pss_nil))))))))) (pss_cons (ps_if (pt_not (pt_tr (pe_def (d_law_same Z 4) (hr.mono (by first | decide | exact Nat.le_refl _)) (by rfl) passL (pa_cons (pe_def (d_swapped Z) (hr.mono (by first | decide | exact Nat.le_refl _)) (by rfl) passL (pa_cons (pv 0) (pa_nil))) (pa_cons (pe_def (d_law_number Z) (hr.mono (by first | decide | exact Nat.le_refl _)) (by rfl) passL (pa_cons (pe_lc (own := [("pair", 3)]) rfl sc_law_right.nd (pi_sq1 (pv 2)) (blkOk_by (N := [("table" : Str), "answers", "pairs", "pair", "x", "y", "turned", "other", "on_x", "on_y"]) (sc := defScope s_law_right) (by decide +kernel)) (fun _ _ _ _ _ => pg_name (i := 3) sc_law_right.nd rfl (by first | exact Or.inl rfl | exact Or.inr rfl)) (fun _ _ _ _ _ => pts_nil) (fun _ _ _ _ _ => pe_ix ix_1 (pv 1) (pe_op op_add1 (pe_op op_mul1 (pe_int) (pe_ix ix_1 (pv 3) (pe_int) (fun _ _ => rfl))) (pe_ix ix_1 (pv 3) (pe_int) (fun _ _ => rfl))) (fun _ _ => rfl))) (pa_nil))) (pa_nil)))) (by intro _; rfl))) (pss_one (ps_ret (pe_bl))) (pss_nil)) (pss_cons (ps_set (i := 8) sc_law_right.nd rfl (by first | exact Or.inl rfl | exact Or.inr rfl) (pe_or (pe_cmpR (op_ne1 (hu64 hr)) (pe_ix ix_1 (pv 1) (pe_int) (fun _ _ => rfl)) (pe_ix ix_1 (pv 1) (pe_int) (fun _ _ => rfl)) (nomark _)) (pe_one (pe_cmpR (op_ne1 (hu64 hr)) (pe_ix ix_1 (pv 1) (pe_int) (fun _ _ => rfl)) (pe_ix ix_1 (pv 1) (pe_int) (fun _ _ => rfl)) (nomark _))))) (pss_cons (ps_set (i := 9) sc_law_right.nd rfl (by first | exact Or.inl rfl | exact Or.inr rfl) (pe_or (pe_cmpR (op_ne1 (hu64 hr)) (pe_ix ix_1 (pv 1) (pe_int) (fun _ _ => rfl)) (pe_ix ix_1 (pv 1) (pe_int) (fun _ _ => rfl)) (nomark _)) (pe_one (pe_cmpR (op_ne1 (hu64 hr)) (pe_ix ix_1 (pv 1) (pe_int) (fun _ _ => rfl)) (pe_ix ix_1 (pv 1) (pe_int) (fun _ _ => rfl)) (nomark _))))) (pss_one (ps_ret (pe_and (pe_def (d_law_same Z 4) (hr.mono (by first | decide | exact Nat.le_refl _)) (by rfl) passL (pa_cons (pe_def (d_fixed Z) (hr.mono (by first | decide | exact Nat.le_refl _)) (by rfl) passL (pa_cons (pv 0) (pa_nil))) (pa_cons (pv 0) (pa_nil)))) (pe_one (pe_def (d_law_same Z 4) (hr.mono (by first | decide | exact Nat.le_refl _)) (by rfl) passL (pa_cons (pe_def (d_depends Z) (hr.mono (by first | decide | exact Nat.le_refl _)) (by rfl) passL (pa_cons (pv 0) (pa_nil))) (pa_cons (pe_tup (pa_cons (pv 8) (pa_cons (pv 9) (pa_nil)))) (pa_nil)))))))))))))
theorem d_law_right {P : Program} {w : World} {K : PySem.W.Frag} {mg : Str → Option Value} {base : Heap} (Z : Zz P w K mg base) : DefOk P w K mg base "_law_right" 7 [("table" : Str)] [] (sp_law_right K) := by
  obtain ⟨fd, F⟩ := Z.c.def_ 22 (d := dd_law_right) rfl
  have b := F.bindsN (ps := [("table" : Str)]) fun _ _ _ _ _ _ us hl => match us, hl with | [_], _ => rfl
  exact ⟨_, fd, [], o_law_right Z F, (He.glo_ok Z.X Z.G (Z.k.fact 38 (f := .glo "_law_right") rfl)), F.kp, b, .nil⟩
theorem sc_law_second_part : FnScope [("script" : Str), "pool", "tables", "k", "table"] [("script" : Str)] (defScope s_law_second_part) := ⟨rfl, rfl, rfl, by decide +kernel, rfl, by decide +kernel, by decide +kernel⟩
theorem o_law_second_part {P : Program} {w : World} {K : PySem.W.Frag} {mg : Str → Option Value} {base : Heap} (Z : Zz P w K mg base) {fd : FuncData} (F : FunD K dd_law_second_part.name dd_law_second_part.qual dd_law_second_part.params dd_law_second_part.body dd_law_second_part.scope (dd_law_second_part.dvs K) (dd_law_second_part.kws K) (He.fAd K dd_law_second_part.at_) fd) : FnOk P w K mg base (L2.CX P w) 8 (He.fAd K dd_law_second_part.at_) fd [("script" : Str)] (sp_law_second_part K) := by
  refine F.ok sc_law_second_part (fun vs H Q E h => ?_) (fun cdv A outer s H vs Q E hr h => ⟨t_law_second_part K E, PSs.nox ?_, pure_law_second_part Z.k vs H Q E h⟩)
  · obtain ⟨_, _, e, _⟩ := h; rw [e]; rfl
  · exact pss_cons (ps_set (i := 1) sc_law_second_part.nd rfl (by first | exact Or.inl rfl | exact Or.inr rfl) (pe_def (d_law_pool Z) (hr.mono (by first | decide | exact Nat.le_refl _)) (by rfl) passL (pa_cons (pv 0) (pa_cons (pe_int) (pa_nil))))) (pss_cons (ps_set (i := 2) sc_law_second_part.nd rfl (by first | exact Or.inl rfl | exact Or.inr rfl) (pe_lst (pa_cons (pe_def (d_law_draw Z) (hr.mono (by first | decide | exact Nat.le_refl _)) (by rfl) passL (pa_cons (pv 1) (pa_cons (pe_int) (pa_nil)))) (pa_nil)))) (pss_cons (ps_for PassesOwn.never rfl (pi_range1 (by rfl) (He.free_ok Z.X Z.G (Z.k.fact 9 (f := .free "range") rfl)) (pa_cons (pe_def (d_law_draw Z) (hr.mono (by first | decide | exact Nat.le_refl _)) (by rfl) passL (pa_cons (pv 1) (pa_cons (pe_int) (pa_nil)))) (pa_nil))) (pg_name (i := 3) sc_law_second_part.nd rfl (by first | exact Or.inl rfl | exact Or.inr rfl)) (pss_one (ps_expr (pe_bm PySem.F.plainAttrs_list PySem.F.slot_list_append PySem.F.type_list_append mt_append (pv 2) (pa_cons (pe_def (d_law_draw Z) (hr.mono (by first | decide | exact Nat.le_refl _)) (by rfl) passL (pa_cons (pv 1) (pa_cons (pe_int) (pa_nil)))) (pa_nil)))))) (pss_cons (ps_for PassesOwn.never rfl (pi_sq1 (pe_op op_add1 (pv 2) (pe_slice sl_list (pv 2) (po_none) (po_some (pe_int))))) (pg_name (i := 4) sc_law_second_part.nd rfl (by first | exact Or.inl rfl | exact Or.inr rfl)) (pss_one (ps_if (pt_not (pt_tr (pe_def (d_law_right Z) (hr.mono (by first | decide | exact Nat.le_refl _)) (by rfl) passL (pa_cons (pv 4) (pa_nil))) (by intro _; rfl))) (pss_one (ps_ret (pe_bl))) (pss_nil)))) (pss_one (ps_ret (pe_bl))))))
theorem d_law_second_part {P : Program} {w : World} {K : PySem.W.Frag} {mg : Str → Option Value} {base : Heap} (Z : Zz P w K mg base) : DefOk P w K mg base "_law_second_part" 8 [("script" : Str)] [] (sp_law_second_part K) := by
  obtain ⟨fd, F⟩ := Z.c.def_ 23 (d := dd_law_second_part) rfl
  have b := F.bindsN (ps := [("script" : Str)]) fun _ _ _ _ _ _ us hl => match us, hl with | [_], _ => rfl
  exact ⟨_, fd, [], o_law_second_part Z F, (He.glo_ok Z.X Z.G (Z.k.fact 39 (f := .glo "_law_second_part") rfl)), F.kp, b, .nil⟩
theorem sc_law : FnScope [("script" : Str)] [("script" : Str)] (defScope s_law) := ⟨rfl, rfl, rfl, by decide +kernel, rfl, by decide +kernel, by decide +kernel⟩
theorem o_law {P : Program} {w : World} {K : PySem.W.Frag} {mg : Str → Option Value} {base : Heap} (Z : Zz P w K mg base) {fd : FuncData} (F : FunD K dd_law.name dd_law.qual dd_law.params dd_law.body dd_law.scope (dd_law.dvs K) (dd_law.kws K) (He.fAd K dd_law.at_) fd) : FnOk P w K mg base (L2.CX P w) 9 (He.fAd K dd_law.at_) fd [("script" : Str)] (sp_law K) := by
  refine F.ok sc_law (fun vs H Q E h => ?_) (fun cdv A outer s H vs Q E hr h => ⟨t_law K E, PSs.nox ?_, pure_law Z.k vs H Q E h⟩)
  · obtain ⟨_, _, e, _⟩ := h; rw [e]; rfl
  · exact pss_one (ps_ret (pe_and (pe_def (d_law_first_part Z) (hr.mono (by first | decide | exact Nat.le_refl _)) (by rfl) passL (pa_cons (pv 0) (pa_nil))) (pe_one (pe_def (d_law_second_part Z) (hr.mono (by first | decide | exact Nat.le_refl _)) (by rfl) passL (pa_cons (pv 0) (pa_nil))))))
theorem d_law {P : Program} {w : World} {K : PySem.W.Frag} {mg : Str → Option Value} {base : Heap} (Z : Zz P w K mg base) : DefOk P w K mg base "law" 9 [("script" : Str)] [] (sp_law K) := by
  obtain ⟨fd, F⟩ := Z.c.def_ 24 (d := dd_law) rfl
  have b := F.bindsN (ps := [("script" : Str)]) fun _ _ _ _ _ _ us hl => match us, hl with | [_], _ => rfl
  exact ⟨_, fd, [], o_law Z F, (He.glo_ok Z.X Z.G (Z.k.fact 0 (f := .glo "law") rfl)), F.kp, b, .nil⟩
/-! ## the head, and the law -/
abbrev R : PySem.W.OpenRow := PySem.W.OpenLaw.row PySem.Challenge.rw_gatesofcloth_k02_words_and_tables
def loose : List Str := ([("LETTERS" : Str), ("DIGITS" : Str), ("MOST_DIGITS" : Str), ("LONGEST_NAME" : Str), ("words_of" : Str), ("number_of" : Str), ("is_name" : Str), ("from_bits" : Str)] : List Str) ++ ([("ARGUMENTS" : Str), ("lookup" : Str), ("swapped" : Str), ("inverted" : Str), ("fixed" : Str), ("depends" : Str), ("_law_pool" : Str), ("_law_draw" : Str)] : List Str) ++ ([("_law_same" : Str), ("_law_is_name" : Str), ("_law_signs" : Str), ("_law_typed_line" : Str), ("_law_typed_word" : Str), ("_law_cut_at_spaces" : Str), ("_law_number_due" : Str), ("_law_first_part" : Str)] : List Str) ++ ([("_law_bits" : Str), ("_law_number" : Str), ("_law_fixed_right" : Str), ("_law_right" : Str), ("_law_second_part" : Str)] : List Str)
abbrev hk : PySem.W.Hook := He.hookX 4 fa fn [] [] ex
def ob (s : PySem.W.SharedT) : He.AlX := He.obsX 4 fa fn [] [] ex (HandSHeadRun.getT s)
theorem ob_eq (s : PySem.W.SharedT) : ob s = hk.obs s.abs := He.obsX_eq (HandSHeadRun.getT_eq s)
theorem run (w : World) : HandSHeadRun.RunEq R (PySem.W.view R.prog [33]) hk ob 3000 loose w := by
  intro os
  kernel_rfl
theorem facts {P : Program} {w : World} {K : PySem.W.Frag} {h : Heap} {mg : Str → Option Value} {f : Addr} (X : K.In h) (G : h.Ns mainGlobals mg) (hfa : mg ("law" : Str) = some (.ref f)) (c : He.SaysX fa fn [] [] ex w h K) :
    ∃ fd : FuncData, (∀ (s : Shared) (v : Value), BindsTo s fd ⟨[v], []⟩ [("script", v)]) ∧ ∀ base : Heap, K.In base → base.Ns mainGlobals mg → FnOk P w K mg base (L2.CX P w) 9 f fd ["script"] (sp_law K) := by
  have cd := c.t.d
  have κ : KF K := ⟨fun i f h => cd.fact i h, c.more⟩
  obtain ⟨fd, F⟩ := cd.def_ 24 (d := dd_law) rfl
  have e := hfa.symm.trans (He.glo_ok X G (κ.fact 0 (f := .glo "law") rfl))
  cases e
  have b := FunD.bindsA (ps := ["script"]) F fun _ _ _ _ _ _ us hl => match us, hl with | [_], _ => rfl
  exact ⟨fd, fun s v => b s [v] rfl, fun base hb hn => o_law ⟨hb, hn, cd, κ⟩ F⟩
end My
open PySem PySem.W PySem.Calls PyProof.Rows
theorem PySem.Challenge.cw_gatesofcloth_k02_words_and_tables_holds : PySem.Challenge.rw_gatesofcloth_k02_words_and_tables.Holds := by
  w_on; o_law
  refine HandSHeadRun.head_any (r := My.R) (q := view My.R.prog [33]) (H := My.hk) (ob := My.ob) (M := 3000) (loose := My.loose) (d := HandSHeadRun.topDef My.R.prog 33) (kwd := []) My.ob_eq
    (by kernel_rfl) (fun s => by kernel_rfl) My.run (by kernel_rfl) (by kernel_rfl) (by kernel_rfl) (by rfl) (by first | assumption | decide +kernel) (by decide +kernel) ⟨rfl, rfl, rfl, rfl, rfl, by decide +kernel⟩ ?hw ?hc
  case hw => w_witness2
  case hc =>
    refine My.walk_mine (l := PySem.Challenge.rw_gatesofcloth_k02_words_and_tables) (n := 63) (k := 9) (x := "script") rfl (by decide) (by kernel_rfl) ⟨rfl, by decide, by decide⟩ ?_
    intro w mg fa h Y G hmg0
    obtain ⟨K, KX, c⟩ := Y
    have hmg : mg ("law" : PySem.Str) = some (.ref fa) := by
      have e : (HandSHeadRun.topDef My.R.prog 33).name = ("law" : PySem.Str) := by kernel_rfl
      rw [← e]
      exact hmg0
    obtain ⟨fd, hb, hF⟩ := My.facts (P := (PySem.Challenge.rw_gatesofcloth_k02_words_and_tables).prog) (w := w) KX G hmg c
    exact ⟨K, fd, My.sp_law K, KX, hb, fun H a ns hl hS => ⟨a, ns, rfl, hS, hl, fun _ => rfl⟩, hF⟩

