import PyProof.Rows.All
import Wide.All
import OpenK.AllK
import Wide.FinOn
import KE.KStateDown
import HandS.ForMost
import HandS.Exc
import HandS.WordsExc
import HandS.Defaults
import HandS.Walk
import HandS.Head0
import HandS.Head1
import HandS.Head2
import HandS.HeadEnd
import HandS.HeadHook1
import HandS.HeadHook2
import HandS.HeadHook3
import HandS.HeadHook4
import HandS.EndBits
import HandS.Codes
import HandS.MakeKw
import HandS.MakeKwOnly
import HandS.Style
import HandS.IsInst
import HandS.Flow
import HandS.TupAny
import HandS.TupMul
import HandS.TupLe
import HandS.Wide
import HandS.WideBits
import HandS.Zip
import KE.GoesMore
import KE.KEqSeq
import KE.KExcSuper
import HandS.ExcInit
import HandS.NestedK
import HandS.ExcSuper
import HandS.ExcIs
import HandS.TryOnly
import HandS.TryMany
import HandS.Property
import HandS.CallSlots
import HandS.ExcField
import PySem.Challenge.RW_gatesofcloth_k03_whole_feeds_tick_by_tic

set_option Elab.async false
set_option linter.all false
set_option maxRecDepth 100000
set_option maxHeartbeats 4000000
/-! My own small layer over HandS: an abstract heap told by facts (F) and own cells (cs). -/
namespace My
open PySem PySem.Spec L2

/-! ### facts that stay -/
class Mono (F : Hp → Prop) : Prop where
  up : ∀ B B', Same B B' → F B → F B'
theorem Same.seqT {K : PySem.W.Frag} {H H' : Hp} {a : Addr} {xs : List V} (e : Same H H') (h : SqT K H a xs) : SqT K H' a xs := by
  rcases h with (h | ⟨o, h⟩) | h
  · exact .inl (.inl (e _ _ h))
  · exact .inl (.inr ⟨o, e _ _ h⟩)
  · exact .inr h
instance {K : PySem.W.Frag} {a : Addr} {xs : List V} : Mono (fun H => SqL K H a xs) := ⟨fun _ _ e h => e.seq h⟩
instance {K : PySem.W.Frag} {a : Addr} {xs : List V} : Mono (fun H => SqT K H a xs) := ⟨fun _ _ e h => Same.seqT e h⟩
instance {P : Prop} : Mono (fun _ => P) := ⟨fun _ _ _ h => h⟩
instance {A B : Hp → Prop} [Mono A] [Mono B] : Mono (fun H => A H ∧ B H) := ⟨fun _ _ e h => ⟨Mono.up _ _ e h.1, Mono.up _ _ e h.2⟩⟩
instance {A B : Hp → Prop} [Mono A] [Mono B] : Mono (fun H => A H ∨ B H) := ⟨fun _ _ e h => h.imp (Mono.up _ _ e) (Mono.up _ _ e)⟩
instance {α : Sort _} {A : α → Hp → Prop} [∀ x, Mono (A x)] : Mono (fun H => ∀ x, A x H) := ⟨fun _ _ e h x => Mono.up _ _ e (h x)⟩
instance {α : Sort _} {A : α → Hp → Prop} [∀ x, Mono (A x)] : Mono (fun H => ∃ x, A x H) := ⟨fun _ _ e ⟨x, h⟩ => ⟨x, Mono.up _ _ e h⟩⟩
instance {a : Addr} {o : HO} : Mono (fun H => H a = some o) := ⟨fun _ _ e h => e _ _ h⟩
mutual
theorem dp_up {K : PySem.W.Frag} {H H' : Hp} (e : Same H H') : ∀ {v : V} {d : PyData}, Dp K H v d → Dp K H' v d
  | _, _, .non => .non
  | _, _, .bl b => .bl b
  | _, _, .int i => .int i
  | _, _, .str x => .str x
  | _, _, .lst h k => .lst (e.seq h) (dpAll_up e k)
  | _, _, .tup h k => .tup (Same.seqT e h) (dpAll_up e k)
theorem dpAll_up {K : PySem.W.Frag} {H H' : Hp} (e : Same H H') : ∀ {vs : List V} {ds : List PyData}, DpAll K H vs ds → DpAll K H' vs ds
  | _, _, .nil => .nil
  | _, _, .cons h k => .cons (dp_up e h) (dpAll_up e k)
end
instance {K : PySem.W.Frag} {v : V} {d : PyData} : Mono (fun H => Dp K H v d) := ⟨fun _ _ e h => dp_up e h⟩
instance {K : PySem.W.Frag} {vs : List V} {ds : List PyData} : Mono (fun H => DpAll K H vs ds) := ⟨fun _ _ e h => dpAll_up e h⟩
/-- a sequence that is to be read: a list or a tuple -/
def Sq (K : PySem.W.Frag) (H : Hp) (a : Addr) (xs : List V) : Prop := SqL K H a xs ∨ SqT K H a xs
instance {K : PySem.W.Frag} {a : Addr} {xs : List V} : Mono (fun H => Sq K H a xs) := ⟨fun _ _ e h => h.imp (Same.seq e) (Same.seqT e)⟩

/-! ### the state -/
structure S (F : Hp → Prop) (cs : List (Addr × HO)) (H : Hp) : Prop where
  mono : Mono F
  ex : ∃ B, Same B H ∧ F B ∧ ∀ c ∈ cs, B c.1 = none
  cell : ∀ c ∈ cs, H c.1 = some c.2
  nd : (cs.map (·.1)).Nodup
section
variable {F G : Hp → Prop} {cs cs' : List (Addr × HO)} {H H' : Hp} {p : Addr} {o u : HO} {K : PySem.W.Frag}
theorem same_upd {H : Hp} {p : Addr} {o : HO} (h : H p = none) : Same H (upd H p o) := fun a u e => by rw [upd_ne (ne_of_none e h)]; exact e
theorem S.fact (s : S F cs H) : F H := by
  obtain ⟨B, e, f, _⟩ := s.ex
  exact s.mono.up B H e f
theorem S.of (h : F H) (m : Mono F := by infer_instance) : S F [] H := ⟨m, ⟨H, Same.refl H, h, fun _ z => nomatch z⟩, fun _ z => (nomatch z), List.nodup_nil⟩
theorem S.alloc (s : S F cs H) (h : H p = none) : S F ((p, o) :: cs) (upd H p o) := by
  obtain ⟨m, ⟨B, e, f, fr⟩, c, nd⟩ := s
  have hp : ∀ x ∈ cs, x.1 ≠ p := fun x hx => ne_of_none (c x hx) h
  refine ⟨m, ⟨B, e.trans (same_upd h), f, fun x hx => ?_⟩, fun x hx => ?_, ?_⟩
  · rcases List.mem_cons.mp hx with rfl | hx
    · exact e.free h
    · exact fr x hx
  · rcases List.mem_cons.mp hx with rfl | hx
    · exact upd_same
    · rw [upd_ne (hp x hx)]; exact c x hx
  · rw [List.map_cons, List.nodup_cons]
    refine ⟨fun z => ?_, nd⟩
    obtain ⟨x, hx, ex⟩ := List.mem_map.mp z
    exact hp x hx ex
theorem S.same (s : S F cs H) (e : Same H H') : S F cs H' := by
  obtain ⟨m, ⟨B, e0, f, fr⟩, c, nd⟩ := s
  exact ⟨m, ⟨B, e0.trans e, f, fr⟩, fun x hx => e _ _ (c x hx), nd⟩
theorem S.new (s : S F cs H) (h : H p = none) (e : Same H H') (ho : H' p = some o) : S F ((p, o) :: cs) H' := by
  refine (s.alloc (o := o) h).same fun a u q => ?_
  by_cases z : a = p
  · subst z
    rw [upd_same] at q; cases q; exact ho
  · rw [upd_ne z] at q; exact e _ _ q
theorem mem_of_get {α : Type} {l : List α} {i : Nat} {x : α} (h : l[i]? = some x) : x ∈ l := by
  obtain ⟨h1, h2⟩ := List.getElem?_eq_some_iff.mp h
  exact h2 ▸ List.getElem_mem h1
theorem S.at (s : S F cs H) (i : Nat) {c : Addr × HO} (h : cs[i]? = some c) : H c.1 = some c.2 := s.cell c (mem_of_get h)
theorem S.has (s : S F cs H) {c : Addr × HO} (h : c ∈ cs) : H c.1 = some c.2 := s.cell c h
theorem S.set (s : S F cs H) (i : Nat) (h : cs[i]? = some (p, o)) (u : HO) : S F (cs.set i (p, u)) (upd H p u) := by
  obtain ⟨m, ⟨B, e, f, fr⟩, c, nd⟩ := s
  obtain ⟨hi, hie⟩ := List.getElem?_eq_some_iff.mp h
  have hp : B p = none := fr (p, o) (mem_of_get h)
  have key : (cs.set i (p, u)).map (·.1) = cs.map (·.1) := by
    rw [List.map_set]
    apply List.ext_getElem
    · simp
    · intro j h1 h2
      rw [List.getElem_set]
      split
      · rename_i q; subst q; simp [hie]
      · rfl
  refine ⟨m, ⟨B, fun a w q => ?_, f, fun x hx => ?_⟩, fun x hx => ?_, by rw [key]; exact nd⟩
  · have : a ≠ p := by intro z; subst z; rw [hp] at q; cases q
    rw [upd_ne this]; exact e _ _ q
  · rcases List.mem_or_eq_of_mem_set hx with hx | hx
    · exact fr x hx
    · subst hx; exact hp
  · obtain ⟨j, hj⟩ := List.mem_iff_getElem?.mp hx
    rw [List.getElem?_set] at hj
    by_cases z : i = j
    · subst z
      rw [if_pos rfl, if_pos hi] at hj
      cases hj
      exact upd_same
    · rw [if_neg z] at hj
      have q : x.1 ≠ p := by
        intro w
        have a1 : (cs.map (·.1))[j]? = some p := by rw [List.getElem?_map, hj]; simp [w]
        have a2 : (cs.map (·.1))[i]? = some p := by rw [List.getElem?_map, h]; rfl
        exact z (nd_ix nd a2 a1)
      rw [upd_ne q]
      exact c x (mem_of_get hj)
theorem S.imp (s : S F cs H) (h : ∀ B, F B → G B) (m : Mono G := by infer_instance) : S G cs H := by
  obtain ⟨_, ⟨B, e, f, fr⟩, c, nd⟩ := s
  exact ⟨m, ⟨B, e, h B f, fr⟩, c, nd⟩
theorem S.sub (s : S F cs H) (h : cs'.Sublist cs) : S F cs' H := by
  obtain ⟨m, ⟨B, e, f, fr⟩, c, nd⟩ := s
  exact ⟨m, ⟨B, e, f, fun x hx => fr x (h.subset hx)⟩, fun x hx => c x (h.subset hx), nd.sublist (h.map _)⟩
theorem S.perm (s : S F cs H) (h : cs.Perm cs') : S F cs' H := by
  obtain ⟨m, ⟨B, e, f, fr⟩, c, nd⟩ := s
  exact ⟨m, ⟨B, e, f, fun x hx => fr x (h.mem_iff.mpr hx)⟩, fun x hx => c x (h.mem_iff.mpr hx), (h.map _).nodup_iff.mp nd⟩
/-- the first cell will not change any more: a fact -/
theorem S.freeze (s : S F ((p, o) :: cs) H) (h : ∀ B, F B → B p = some o → G B) (m : Mono G := by infer_instance) : S G cs H := by
  obtain ⟨mF, ⟨B, e, f, fr⟩, c, nd⟩ := s
  have hp : H p = some o := c (p, o) (List.mem_cons_self ..)
  have bp : B p = none := fr (p, o) (List.mem_cons_self ..)
  rw [List.map_cons, List.nodup_cons] at nd
  refine ⟨m, ⟨upd B p o, fun a u q => ?_, h _ (mF.up _ _ (same_upd bp) f) upd_same, fun x hx => ?_⟩, fun x hx => c x (List.mem_cons_of_mem _ hx), nd.2⟩
  · by_cases z : a = p
    · subst z; rw [upd_same] at q; cases q; exact hp
    · rw [upd_ne z] at q; exact e _ _ q
  · have q : x.1 ≠ p := fun z => nd.1 (List.mem_map.mpr ⟨x, hx, z⟩)
    rw [upd_ne q]; exact fr x (List.mem_cons_of_mem _ hx)
theorem S.drop1 (s : S F ((p, o) :: cs) H) : S F cs H := s.sub (List.sublist_cons_self _ _)
theorem S.free (s : S F cs H) (h : H p = none) : ∀ c ∈ cs, c.1 ≠ p := fun c hc => ne_of_none (s.cell c hc) h
end
theorem sq_l {K : PySem.W.Frag} {H : Hp} {a : Addr} {xs : List V} (h : H a = some (.lst xs)) : SqL K H a xs := Or.inl (Or.inl h)
theorem sq_t {K : PySem.W.Frag} {H : Hp} {a : Addr} {xs : List V} (h : H a = some (.tup xs)) : SqT K H a xs := Or.inl (Or.inl h)

/-! ### steps of a reading -/
section
variable {σ σ' : L2.St} {H : Hp} {Q : VK} {nx bk ct : L2.St → Hp → Prop} {rt : VK} {ta tb tc te : TE} {t u : TS} {tt tu : TT} {i j : Nat} {v x y : V} {r : R2} {K : PySem.W.Frag} {F : Hp → Prop} {cs : List (Addr × HO)}
theorem x_seq (h : t ⟨fun σ H => u ⟨nx, rt, bk, ct⟩ σ H, rt, bk, ct⟩ σ H) : tSeq t u ⟨nx, rt, bk, ct⟩ σ H := h
theorem x_next (h : nx σ H) : tNext ⟨nx, rt, bk, ct⟩ σ H := h
theorem x_ret (h : te σ H rt) : tRet te ⟨nx, rt, bk, ct⟩ σ H := h
theorem x_retN (h : rt .non H) : tRetN ⟨nx, rt, bk, ct⟩ σ H := h
theorem x_brk (h : bk σ H) : tBreak ⟨nx, rt, bk, ct⟩ σ H := h
theorem x_cont (h : ct σ H) : tCont ⟨nx, rt, bk, ct⟩ σ H := h
theorem x_drop (h : te σ H fun _ H1 => nx σ H1) : tDrop te ⟨nx, rt, bk, ct⟩ σ H := h
theorem x_asg {g : TG} (h : te σ H fun x H1 => g x σ H1 nx) : tAsg te g ⟨nx, rt, bk, ct⟩ σ H := h
theorem x_gname {R : L2.St → Hp → Prop} (h : R (σ.set i (some v)) H) : gName i v σ H R := h
theorem x_ifs (h : tt σ H fun b H1 => if b = true then t ⟨nx, rt, bk, ct⟩ σ H1 else u ⟨nx, rt, bk, ct⟩ σ H1) : tIfS tt t u ⟨nx, rt, bk, ct⟩ σ H := h
theorem x_for {wi : TI} {g : TG} {tb : TS} (h : wi σ H fun J H1 => ∃ W : Nat → Nat → L2.St → Hp → Prop, (∃ m, W 0 m σ H1) ∧ ∀ i m σ H, W i m σ H →
  (J.stop i H ∧ nx σ H) ∨ (J.go i H ∧ ∃ N : L2.St → Hp → Prop, (∀ σ' H', N σ' H' → ∃ m', m' < m ∧ W (i + 1) m' σ' H') ∧ ∀ x H', J.yld i H x H' → g x σ H' fun σ2 H2 => tb ⟨N, rt, nx, N⟩ σ2 H2)) : tFor wi g tb ⟨nx, rt, bk, ct⟩ σ H := h
theorem x_var (h : σ[i]? = some (some v)) (q : Q v H) : tVar i σ H Q := ⟨v, h, q⟩
theorem x_c (q : Q v H) : tC v σ H Q := q
theorem x_op (h : ta σ H fun x H1 => tb σ H1 fun y H2 => r x y H2 Q) : tOp r ta tb σ H Q := h
theorem x_un {r : V → Hp → VK → Prop} (h : ta σ H fun x H1 => r x H1 Q) : tUn r ta σ H Q := h
theorem x_I0 {g : Int → Int → V} {a b : Int} (q : Q (g a b) H) : rI0 g (.int a) (.int b) H Q := ⟨a, b, rfl, rfl, q⟩
theorem x_I {C : Int → Int → Prop} {g : Int → Int → V} {a b : Int} (c : C a b) (q : Q (g a b) H) : rI C g (.int a) (.int b) H Q := ⟨a, b, rfl, rfl, c, q⟩
theorem x_U {g : Int → V} {a : Int} (q : Q (g a) H) : rU g (.int a) H Q := ⟨a, rfl, q⟩
theorem x_eq (hs : scal x y = true) (q : Q (.bl (decide (x = y))) H) : rEq x y H Q := ⟨hs, q⟩
theorem x_ne (hs : scal x y = true) (q : Q (.bl (!decide (x = y))) H) : rNe x y H Q := ⟨hs, q⟩
theorem x_test {R : Bool → Hp → Prop} (h : te σ H fun x H' => ∃ k, x = .bl k ∧ R k H') : tTest te σ H R := h
theorem x_tB {R : Bool → Hp → Prop} (h : te σ H fun x H' => ∃ k, x = .bl k ∧ R k H') : tB te σ H R := h
theorem x_bl {R : Bool → Prop} {b : Bool} (q : R b) : ∃ k, V.bl b = V.bl k ∧ R k := ⟨b, rfl, q⟩
theorem x_and {R : Bool → Hp → Prop} (h : tt σ H fun c H1 => if c = true then tu σ H1 R else R false H1) : tAnd tt tu σ H R := h
theorem x_or {R : Bool → Hp → Prop} (h : tt σ H fun c H1 => if c = true then R true H1 else tu σ H1 R) : tOr tt tu σ H R := h
theorem x_not {R : Bool → Hp → Prop} (h : tt σ H fun c H1 => R (!c) H1) : tNot tt σ H R := h
theorem x_ifE (h : tt σ H fun c H1 => if c = true then ta σ H1 Q else tb σ H1 Q) : tIf tt ta tb σ H Q := h
theorem x_chain {r r' : R2} (h : ta σ H fun x H1 => tb σ H1 fun y H2 => r x y H2 fun z H3 => ∃ k, z = .bl k ∧ (if k = true then tc σ H3 fun w' H4 => r' y w' H4 Q else Q (.bl false) H3)) : tChain r r' ta tb tc σ H Q := h
theorem x_andV (h : ta σ H fun x H1 => ∃ c, x = .bl c ∧ if c = true then tb σ H1 Q else Q (.bl false) H1) : tAndV ta tb σ H Q := h
theorem x_orV (h : ta σ H fun x H1 => ∃ c, x = .bl c ∧ if c = true then Q (.bl true) H1 else tb σ H1 Q) : tOrV ta tb σ H Q := h
theorem x_notV (h : ta σ H fun x H1 => ∃ c, x = .bl c ∧ Q (.bl (!c)) H1) : tNotV ta σ H Q := h
theorem x_nil {R : List V → Hp → Prop} (q : R [] H) : tNil σ H R := q
theorem x_cons {tr : TA} {R : List V → Hp → Prop} (h : ta σ H fun x H1 => tr σ H1 fun xs H2 => R (x :: xs) H2) : tCons ta tr σ H R := h
def NewTup (Q : VK) (xs : List V) (H : Hp) : Prop := xs.length ≤ sizeLine ∧ ∀ p, H p = none → Q (.ref p) (upd H p (.tup xs))
def NewLst (Q : VK) (xs : List V) (H : Hp) : Prop := xs.length ≤ sizeLine ∧ ∀ p, H p = none → Q (.ref p) (upd H p (.lst xs))
theorem x_tup {t : TA} (h : t σ H fun xs H1 => NewTup Q xs H1) : tTup t σ H Q := h
theorem x_lst {t : TA} (h : t σ H fun xs H1 => NewLst Q xs H1) : tLst t σ H Q := h
theorem x_call {sp : Sp} {dvs : List V} {E : XK} {t : TA} (h : t σ H fun vs H1 => sp (vs ++ dvs) H1 Q E) : tCall sp dvs E t σ H Q := h
theorem x_cb {r : List V → Hp → VK → Prop} {t : TA} (h : t σ H fun vs H1 => r vs H1 Q) : tCB r t σ H Q := h
theorem x_new (s : S F cs H) {o : HO} (k : ∀ p H', S F ((p, o) :: cs) H' → Q (.ref p) H') : ∀ p, H p = none → Q (.ref p) (upd H p o) := fun p hp => k p _ (s.alloc hp)
theorem x_newz (s : S F cs H) {o : HO} {A : Prop} (a : A) (k : ∀ p H', S F ((p, o) :: cs) H' → Q (.ref p) H') : A ∧ ∀ p, H p = none → Q (.ref p) (upd H p o) := ⟨a, fun p hp => k p _ (s.alloc hp)⟩
theorem sz4 {n : Nat} (h : n ≤ 10000) : n ≤ sizeLine := Nat.le_trans h (by decide)
theorem x_newT {xs : List V} (hl : xs.length ≤ 10000) (s : S F cs H) (k : ∀ p H', S F ((p, .tup xs) :: cs) H' → Q (.ref p) H') : NewTup Q xs H := ⟨sz4 hl, fun p hp => k p _ (s.alloc hp)⟩
theorem x_newL {xs : List V} (hl : xs.length ≤ 10000) (s : S F cs H) (k : ∀ p H', S F ((p, .lst xs) :: cs) H' → Q (.ref p) H') : NewLst Q xs H := ⟨sz4 hl, fun p hp => k p _ (s.alloc hp)⟩
theorem x_if {p A B : Prop} {_ : Decidable p} (h1 : p → A) (h2 : ¬ p → B) : if decide p = true then A else B := by
  by_cases h : p
  · rw [decide_eq_true h, if_pos rfl]; exact h1 h
  · rw [decide_eq_false h, if_neg Bool.false_ne_true]; exact h2 h
theorem x_ifn {p A B : Prop} {_ : Decidable p} (h1 : ¬ p → A) (h2 : p → B) : if (!decide p) = true then A else B := by
  by_cases h : p
  · rw [decide_eq_true h]; exact h2 h
  · rw [decide_eq_false h]; exact h1 h
theorem x_ifb {b : Bool} {A B : Prop} (h1 : b = true → A) (h2 : b = false → B) : if b = true then A else B := by
  cases b
  · exact h2 rfl
  · exact h1 rfl
theorem x_ntF {A B : Prop} (q : A) : if (!false) = true then A else B := q
theorem x_ntT {A B : Prop} (q : B) : if (!true) = true then A else B := q
theorem x_share {p A B : Prop} {_ : Decidable p} (hF : B) (hT : p → B → A) : if decide p = true then A else B := x_if (fun h => hT h hF) fun _ => hF
theorem x_share_or {p A B : Prop} {_ : Decidable p} (hT : A) (hF : ¬ p → A → B) : if decide p = true then A else B := x_if (fun _ => hT) fun h => hF h hT
theorem x_yes {b : Bool} {A B : Prop} (h : b = true) (q : A) : if b = true then A else B := by rw [if_pos h]; exact q
theorem x_no {b : Bool} {A B : Prop} (h : b = false) (q : B) : if b = true then A else B := by rw [if_neg (by rw [h]; exact Bool.false_ne_true)]; exact q
end
end My

/-! ### rules by values, several kinds at once -/
namespace My
open PySem PySem.Spec L2
theorem pi_sq {X : Cx} {tg l : Expr} {tl : TE} (hl : PE X l tl) :
    PI X tg l (fun σ H R => tl σ H fun x H1 => ∃ a, x = .ref a ∧ (((∃ xs, SqL X.K H1 a xs) ∧ R (Itl X.K a) H1) ∨ ((∃ xs, SqT X.K H1 a xs) ∧ R (Itt X.K a) H1))) := by
  constructor
  intro pins s σ H R I h
  refine thn (hl.run pins s σ H _ I h) ?_
  rintro v s1 ⟨x, H1, I1, r1, a, rfl, q1⟩
  cases r1
  have fresh : ∀ b ∈ [s1.heap.objs.size], FpOk X pins H1 b := by
    intro b hb
    cases List.mem_singleton.mp hb
    exact I1.fpOk (Nat.le_refl _) (I1.hok.fresh (Nat.le_refl _))
  rcases q1 with ⟨⟨xs, hq⟩, q⟩ | ⟨⟨xs, hq⟩, q⟩
  · obtain ⟨its, _, p, _⟩ := I1.list hq
    refine wpAny_pyIter_list p.isList ⟨s1.heap.objs.size, [s1.heap.objs.size], _, _, H1, rfl, ?_, turn_list a _, ⟨_, Heap.get?_push_size _ rfl, rfl, rfl⟩, fresh, q⟩
    exact I1.kept (t' := s1.toks) fun b o e => Heap.get?_push_of_some _ e
  · obtain ⟨its, _, p, _⟩ := I1.tuple hq
    refine wpAny_pyIter_tuple (items := its.toArray) p ⟨s1.heap.objs.size, [s1.heap.objs.size], _, _, H1, rfl, ?_, turn_tuple a _, ⟨_, Heap.get?_push_size _ rfl, rfl, rfl⟩, fresh, q⟩
    exact I1.kept (t' := s1.toks) fun b o e => Heap.get?_push_of_some _ e
end My
namespace My
open PySem PySem.Spec L2
section
variable {X : Cx}
def rI2 (C : Int → Int → Prop) (g : Int → Int → V) : R2 := rI C g
abbrev rSub1 : R2 := rI0 fun i j => .int (i - j)
abbrev rDiv1 : R2 := rI CDivW fun i j => .int (i / j)
def rMod1 : R2 := rI (fun _ j => 0 < j) fun i j => .int (i % j)
theorem op_mod1 : OpR X (binaryOp .Mod) rMod1 := by
  intro pins s σ H x y v u Q I rx ry h
  obtain ⟨i, j, rfl, rfl, hj, q⟩ := h
  refine op_modN pins s σ H _ _ v u Q I rx ry ⟨i, j, rfl, rfl, by omega, ?_⟩
  show Q (.int (i.fmod j)) H
  rw [Int.fmod_eq_emod_of_nonneg i (by omega)]
  exact q
/-- + of ints, texts, lists, tuples -/
def rAdd1 (K : PySem.W.Frag) : R2 := fun x y H Q => rI0 (fun i j => .int (i + j)) x y H Q ∨ (∃ i j, x = .str i ∧ y = .str j ∧ i.length + j.length ≤ sizeLine ∧ Q (.str (i ++ j)) H) ∨ rCat x y H Q ∨ rCatA K x y H Q
theorem op_add1 : OpR X (binaryOp .Add) (rAdd1 X.K) := op_add.or (op_add_str.or (op_cat.or op_catA))
/-- text * int -/
def rRepS : R2 := fun x y H Q => ∃ z n, x = .str z ∧ y = .int n ∧ MulOk z n ∧ Q (.str (Txt.mul z n)) H
theorem op_repS : OpR X (binaryOp .Mult) rRepS := by
  rintro pins s σ H x y v u Q I rx ry ⟨z, n, rfl, rfl, ok, q⟩
  obtain ⟨t, rfl⟩ := rx
  obtain ⟨t', rfl⟩ := ry
  exact SB.mul ok fun t2 k => ⟨.str (Txt.mul z n), H, I.tok k, ⟨_, rfl⟩, q⟩
def rMul1 (K : PySem.W.Frag) : R2 := fun x y H Q => rI (fun i j => CMul i j ∨ CMulW i j) (fun i j => .int (i * j)) x y H Q ∨ rRep x y H Q ∨ rRepT K x y H Q ∨ rRepS x y H Q
theorem op_mulX1 : OpR X (binaryOp .Mult) (rI (fun i j => CMul i j ∨ CMulW i j) fun i j => .int (i * j)) := by
  intro pins s σ H x y v u Q I rx ry h
  obtain ⟨i, j, rfl, rfl, hc | hc, q⟩ := h
  · exact op_mul pins s σ H _ _ v u Q I rx ry ⟨i, j, rfl, rfl, hc, q⟩
  · exact op_mulW pins s σ H _ _ v u Q I rx ry ⟨i, j, rfl, rfl, hc, q⟩
theorem op_mul1 : OpR X (binaryOp .Mult) (rMul1 X.K) := op_mulX1.or (op_rep.or (op_repT.or op_repS))
def rEq1 (K : PySem.W.Frag) : R2 := fun x y H Q => rEq x y H Q ∨ rEqD K x y H Q
def rNe1 (K : PySem.W.Frag) : R2 := fun x y H Q => rNe x y H Q ∨ rNeD K x y H Q
theorem op_eq1 (hu : X.A.units + 64 < cLine) : OpR X (compareOp .Eq) (rEq1 X.K) := op_eq.or (op_eqD hu)
theorem op_ne1 (hu : X.A.units + 64 < cLine) : OpR X (compareOp .NotEq) (rNe1 X.K) := op_ne.or (op_neD hu)
abbrev rLt1 : R2 := rI0 fun i j => .bl (decide (i < j))
abbrev rLe1 : R2 := rI0 fun i j => .bl (decide (i ≤ j))
abbrev rGt1 : R2 := rI0 fun i j => .bl (decide (j < i))
abbrev rGe1 : R2 := rI0 fun i j => .bl (decide (j ≤ i))
/-- one sign in a text | an item of a sequence -/
def rIn1 (K : PySem.W.Frag) : R2 := fun x y H Q => (∃ (c : Nat) (z : Str), x = .str ⟨#[c]⟩ ∧ y = .str z ∧ Q (.bl (decide (c ∈ z.cps.toList))) H) ∨ rIn K false x y H Q
def rNotIn1 (K : PySem.W.Frag) : R2 := fun x y H Q => (∃ (c : Nat) (z : Str), x = .str ⟨#[c]⟩ ∧ y = .str z ∧ Q (.bl (!decide (c ∈ z.cps.toList))) H) ∨ rIn K true x y H Q
theorem op_in1 : OpR X (compareOp .In) (rIn1 X.K) := op_in_sign.or op_in_seq
theorem op_notIn1 : OpR X (compareOp .NotIn) (rNotIn1 X.K) := op_notIn_sign.or op_notIn_seq
/-- is None, is True, is False (also of other things) -/
def rIs1 : R2 := fun x y H Q => (y = .non ∧ Q (.bl (decide (x = .non))) H) ∨ ∃ b, y = .bl b ∧ Q (.bl (decide (x = .bl b))) H
def rIsNot1 : R2 := fun x y H Q => y = .non ∧ Q (.bl (!decide (x = .non))) H
theorem op_isNot1 : OpR X (compareOp .IsNot) rIsNot1 := op_notN
theorem op_isC : OpR X (compareOp .Is) (fun x y H Q => ∃ b, y = .bl b ∧ Q (.bl (decide (x = .bl b))) H) := by
  intro pins s σ H x y v u Q I rx ry h
  obtain ⟨b, rfl, q⟩ := h
  cases ry
  show wpAny _ _ ((isSame v (Value.bool b)) >>= fun z => pure (Value.bool z)) _ _ s
  refine wpAny_bind ?_
  refine wpAny_isSame_plain ?_ ?_
  · cases x <;> first
      | (cases rx; rfl)
      | (obtain ⟨t, rfl⟩ := rx; rfl)
  · have e : (v == Value.bool b) = decide (x = .bl b) := by
      cases x with
      | bl a =>
        cases rx
        rw [Bool.eq_iff_iff]
        simp
      | _ => first
          | (cases rx; symm; rw [decide_eq_false (by intro z; cases z)]; rfl)
          | (obtain ⟨t, rfl⟩ := rx; symm; rw [decide_eq_false (by intro z; cases z)]; rfl)
    rw [e]
    exact wpAny_pure ⟨.bl (decide (x = .bl b)), H, I, rfl, q⟩
theorem op_is1 : OpR X (compareOp .Is) rIs1 := op_isN.or op_isC
def rLen1 (K : PySem.W.Frag) : List V → Hp → VK → Prop := fun xs H Q => (∃ p ys, xs = [.ref p] ∧ (SqL K H p ys ∨ SqT K H p ys) ∧ Q (.int ys.length) H) ∨ (∃ z, xs = [.str z] ∧ z.length ≤ sizeLine ∧ Q (.int z.length) H)
theorem callOr {f : Value} {r r' : List V → Hp → VK → Prop} (h : CallR X f r) (h' : CallR X f r') : CallR X f (fun xs H Q => r xs H Q ∨ r' xs H Q) := by
  intro pins s σ H xs us Q I rr q
  rcases q with q | q
  · exact h pins s σ H xs us Q I rr q
  · exact h' pins s σ H xs us Q I rr q
theorem call_len1 : CallR X (.builtin "len") (rLen1 X.K) := callOr call_len_seq call_len_str
def rInt1 : List V → Hp → VK → Prop := fun xs H Q => ((∃ i, xs = [.int i] ∧ Q (.int i) H) ∨ ∃ k, xs = [.bl k] ∧ Q (.int (if k then 1 else 0)) H) ∨ (∃ a n, xs = [.str a] ∧ PySem.intText? a = some n ∧ a.length ≤ 640 ∧ Q (.int n) H)
theorem call_int_1 : CallR X (.type "int") rInt1 := callOr call_int1 call_int_str
def rAbs1 : List V → Hp → VK → Prop := fun xs H Q => ∃ i, xs = [.int i] ∧ Q (.int (if i < 0 then -i else i)) H
theorem call_abs1 : CallR X (.builtin "abs") rAbs1 := call_abs
def rList1 (K : PySem.W.Frag) : List V → Hp → VK → Prop := fun xs H Q => ∃ p ys, xs = [.ref p] ∧ (SqL K H p ys ∨ SqT K H p ys) ∧ ∀ l, H l = none → Q (.ref l) (upd H l (.lst ys))
theorem call_list1 : CallR X (.type "list") (rList1 X.K) := call_list_of
def rTuple1 (K : PySem.W.Frag) : List V → Hp → VK → Prop := fun xs H Q => ∃ p ys, xs = [.ref p] ∧ ((SqL K H p ys ∧ ∀ l, H l = none → Q (.ref l) (upd H l (.tup ys))) ∨ (SqT K H p ys ∧ Q (.ref p) H))
theorem call_tuple1 : CallR X (.type "tuple") (rTuple1 X.K) := call_tuple_of
def rIx1 (K : PySem.W.Frag) : R2 := rIx K
theorem ix_1 : IxR X (rIx1 X.K) := ix_seq
def rBitAnd1 : R2 := rI0 fun i j => .int (Builtin.bitAnd i j)
def rBitOr1 : R2 := rI0 fun i j => .int (Builtin.bitOr i j)
def rBitXor1 : R2 := rI0 fun i j => .int (Builtin.bitXor i j)
def rShl1 : R2 := rI CShl fun i j => .int (i * 2 ^ j.toNat)
def rShr1 : R2 := rI (fun _ j => 0 ≤ j) fun i j => .int (i / 2 ^ j.toNat)
def rPow1 : R2 := rI CPow fun i j => .int (i ^ j.toNat)
theorem op_band1 : OpR X (binaryOp .BitAnd) rBitAnd1 := op_and
theorem op_bor1 : OpR X (binaryOp .BitOr) rBitOr1 := op_or
theorem op_bxor1 : OpR X (binaryOp .BitXor) rBitXor1 := op_xor
theorem op_shl1 : OpR X (binaryOp .LShift) rShl1 := op_shlW
theorem op_shr1 : OpR X (binaryOp .RShift) rShr1 := op_shr
theorem op_pow1 : OpR X (binaryOp .Pow) rPow1 := op_pow
def rNeg1 : V → Hp → VK → Prop := rU fun i => .int (-i)
theorem un_neg1 : UnR X (unaryOp .USub) rNeg1 := un_neg
/-- a test by a value's truth -/
def tTr (K : PySem.W.Frag) (ta : TE) : TT := fun σ H Q => ta σ H fun x H' => ∃ k, TruV K x H' k ∧ Q k H'
theorem pt_tr {a : Expr} {ta : TE} (ha : PE X a ta) (he : ∀ whole, isTrue a X.env whole = (do let v ← whole; standAt a.pos; holding [v] (truthy v))) : PT X a (tTr X.K ta) := pt_truth ha he
/-- a for over a list or a tuple -/
def iSq (K : PySem.W.Frag) (tl : TE) : TI := fun σ H R => tl σ H fun x H1 => ∃ a, x = .ref a ∧ (((∃ xs, SqL K H1 a xs) ∧ R (Itl K a) H1) ∨ ((∃ xs, SqT K H1 a xs) ∧ R (Itt K a) H1))
theorem pi_sq1 {tg l : Expr} {tl : TE} (hl : PE X l tl) : PI X tg l (iSq X.K tl) := pi_sq hl
end

/-! ### a def of the text as callers see it -/
def rIsi1 (K : PySem.W.Frag) : List V → Hp → VK → Prop := fun xs H Q => rIsi K xs H Q ∨ rIsiT K xs H Q
theorem call_isi1 {X : Cx} : CallR X (.builtin "isinstance") (rIsi1 X.K) := callOr call_isi call_isiT
def rSplit1 : V → List V → Hp → VK → Prop := fun x xs H Q => ∃ a b, x = .str a ∧ xs = [.str b] ∧ (b.length == 0) = false ∧ a.length + 2 ≤ sizeLine ∧ rNewStrs (Txt.split a b) H Q
def rFind1 : V → List V → Hp → VK → Prop := fun x xs H Q => ∃ a b, x = .str a ∧ xs = [.str b] ∧ Q (.int (Txt.find a b)) H
section
variable {X : Cx} {o e : Expr} {to te : TE} {apos pos : Pos}
theorem pe_split1 (ho : PE X o to) (he : PE X e te) (hs : starEach [e] X.env = [(false, eval e X.env)] := by rfl) (hbase : attributeBase o "split" X.env (eval o X.env) = eval o X.env := by rfl) (hline : (apos.endLine == pos.line) = true := by rfl) :
    PE X (.Call (.Attribute o "split" apos) [e] [] pos) (tM1 rSplit1 to te) := pe_split ho he hs hbase hline
theorem pe_find1 (ho : PE X o to) (he : PE X e te) (hs : starEach [e] X.env = [(false, eval e X.env)] := by rfl) (hbase : attributeBase o "find" X.env (eval o X.env) = eval o X.env := by rfl) (hline : (apos.endLine == pos.line) = true := by rfl) :
    PE X (.Call (.Attribute o "find" apos) [e] [] pos) (tM1 rFind1 to te) := pe_m1 PySem.F.slot_str_find PySem.F.type_str_find mt_find ho he hs hbase hline
theorem pe_int_g {x : Str} {i : Int} {pos : Pos} (hg : Gl X x) (hm : ∃ t, X.mg x = some (.int i t)) (hd : (x == ("__debug__" : Str)) = false := by decide) : PE X (.Name x pos) (tC (.int i)) := by
  obtain ⟨t, hm⟩ := hm
  exact pe_glob hg hm ⟨_, rfl⟩ hd
theorem pe_str_g {x z : Str} {pos : Pos} (hg : Gl X x) (hm : ∃ t, X.mg x = some (.str z t)) (hd : (x == ("__debug__" : Str)) = false := by decide) : PE X (.Name x pos) (tC (.str z)) := by
  obtain ⟨t, hm⟩ := hm
  exact pe_glob hg hm ⟨_, rfl⟩ hd
end
structure DefOk (P : Program) (w : World) (K : PySem.W.Frag) (mg : Str → Option Value) (base : Heap) (x : Str) (k : Nat) (ps : List Str) (ds : List V) (sp : Sp) : Prop where
  ex : ∃ (f : Addr) (fd : FuncData) (dsv : List Value), FnOk P w K mg base (L2.CX P w) k f fd ps sp ∧ mg x = some (.ref f) ∧ PySem.W.keepIn K (.ref f) = true ∧ Binds K fd ps dsv ∧ Vals ds dsv
section
variable {X : Cx} {k : Nat} {sp : Sp} {E : XK} {x : Str} {p pos : Pos} {e : Expr} {es : List Expr} {t : TA} {ps : List Str} {ds : List V}
theorem pe_def (D : DefOk X.prog X.w X.K X.mg X.base x k ps ds sp) (hr : Room k X.A) (hg : Gl X x) (hx : Passes (L2.CX X.prog X.w) X E) (ha : PA X (e :: es) t)
    (hdb : (x == ("__debug__" : Str)) = false := by decide) (he : starEach (e :: es) X.env = (false, eval e X.env) :: starEach es X.env := by rfl) (hpl : (backTo pos (starEach es X.env)).any (·.1) = false := by rfl) :
    PE X (.Call (.Name x p) (e :: es) [] pos) (tCall sp ds E t) := by
  obtain ⟨f, fd, dsv, F, hm, hk, hb, hv⟩ := D.ex
  exact pe_call F hr hg hm hk hb hv hx ha hdb he hpl
theorem pe_def0 (D : DefOk X.prog X.w X.K X.mg X.base x k ps ds sp) (hr : Room k X.A) (hg : Gl X x) (hx : Passes (L2.CX X.prog X.w) X E)
    (hdb : (x == ("__debug__" : Str)) = false := by decide) : PE X (.Call (.Name x p) [] [] pos) (tCall sp ds E tNil) := by
  obtain ⟨f, fd, dsv, F, hm, hk, hb, hv⟩ := D.ex
  exact pe_call0 F hr hg hm hk hb hv hx hdb
end
theorem hu64 {k : Nat} {A : Around} (hr : Room k A) : A.units + 64 < cLine := Nat.lt_of_le_of_lt (Nat.le_refl _) hr.units
end My

/-! ### steps over the rules of several kinds -/
namespace My
open PySem PySem.Spec L2
section
variable {σ σ' : L2.St} {H : Hp} {Q : VK} {K : PySem.W.Frag} {F : Hp → Prop} {cs : List (Addr × HO)} {p q : Addr} {x y v : V} {xs ys : List V} {i j : Int}
theorem x_start {t : TS} {D : Ends} {N : List Str} {vs : List V} (h : t D σ' H) (e : start N vs = σ') : t D (start N vs) H := by rw [e]; exact h
theorem x_addI (q : Q (.int (i + j)) H) : rAdd1 K (.int i) (.int j) H Q := .inl ⟨i, j, rfl, rfl, q⟩
theorem x_addS {a b : Str} (h : a.length + b.length ≤ sizeLine) (q : Q (.str (a ++ b)) H) : rAdd1 K (.str a) (.str b) H Q := .inr (.inl ⟨a, b, rfl, rfl, h, q⟩)
theorem x_addL (s : S F cs H) (h1 : (p, .lst xs) ∈ cs) (h2 : (q, .lst ys) ∈ cs) (h : xs.length + ys.length ≤ sizeLine) (k : ∀ r H', S F ((r, .lst (xs ++ ys)) :: cs) H' → Q (.ref r) H') : rAdd1 K (.ref p) (.ref q) H Q :=
  .inr (.inr (.inl ⟨p, q, xs, ys, rfl, rfl, s.has h1, s.has h2, h, fun r hr => k r _ (s.alloc hr)⟩))
theorem x_mulI (c : CMul i j ∨ CMulW i j) (q : Q (.int (i * j)) H) : rMul1 K (.int i) (.int j) H Q := .inl ⟨i, j, rfl, rfl, c, q⟩
theorem cmul_l (h : -(2 ^ 64) < i ∧ i < 2 ^ 64) : CMul i j ∨ CMulW i j := .inl (.inl h)
theorem cmul_r (h : -(2 ^ 64) < j ∧ j < 2 ^ 64) : CMul i j ∨ CMulW i j := .inl (.inr h)
theorem x_mod (h : 0 < j) (q : Q (.int (i % j)) H) : rMod1 (.int i) (.int j) H Q := ⟨i, j, rfl, rfl, h, q⟩
theorem x_eqS (hs : scal x y = true) (q : Q (.bl (decide (x = y))) H) : rEq1 K x y H Q := .inl ⟨hs, q⟩
theorem x_neS (hs : scal x y = true) (q : Q (.bl (!decide (x = y))) H) : rNe1 K x y H Q := .inl ⟨hs, q⟩
theorem dec_intV : (V.int i = V.int j) = (i = j) := by simp
theorem x_eqI (q : Q (.bl (decide (i = j))) H) : rEq1 K (.int i) (.int j) H Q := .inl ⟨rfl, by simp only [V.int.injEq]; exact q⟩
theorem x_neI (q : Q (.bl (!decide (i = j))) H) : rNe1 K (.int i) (.int j) H Q := .inl ⟨rfl, by simp only [V.int.injEq]; exact q⟩
theorem x_lenL (h : SqL K H p xs ∨ SqT K H p xs) (q : Q (.int xs.length) H) : rLen1 K [.ref p] H Q := .inl ⟨p, xs, rfl, h, q⟩
theorem x_lenC (s : S F cs H) (h : (p, .lst xs) ∈ cs) (q : Q (.int xs.length) H) : rLen1 K [.ref p] H Q := .inl ⟨p, xs, rfl, .inl (sq_l (s.has h)), q⟩
theorem x_lenS {z : Str} (h : z.length ≤ sizeLine) (q : Q (.int z.length) H) : rLen1 K [.str z] H Q := .inr ⟨z, rfl, h, q⟩
theorem x_ixL (h : SqL K H p xs) (e : atI xs i = some v) (q : Q v H) : rIx1 K (.ref p) (.int i) H Q := .inl ⟨p, xs, i, v, rfl, rfl, h, e, q⟩
theorem x_ixT (h : SqT K H p xs) (e : atI xs i = some v) (q : Q v H) : rIx1 K (.ref p) (.int i) H Q := .inr (.inl ⟨p, xs, i, v, rfl, rfl, h, e, q⟩)
theorem x_ixS {z : Str} {c : Nat} (h : z.length ≤ sizeLine) (e : atI z.cps.toList i = some c) (q : Q (.str ⟨#[c]⟩) H) : rIx1 K (.str z) (.int i) H Q := .inr (.inr ⟨z, i, c, rfl, rfl, h, e, q⟩)
theorem x_ixC (s : S F cs H) (h : (p, .lst xs) ∈ cs) (e : atI xs i = some v) (q : Q v H) : rIx1 K (.ref p) (.int i) H Q := x_ixL (sq_l (s.has h)) e q
theorem x_ixCT (s : S F cs H) (h : (p, .tup xs) ∈ cs) (e : atI xs i = some v) (q : Q v H) : rIx1 K (.ref p) (.int i) H Q := x_ixT (sq_t (s.has h)) e q
theorem x_int (q : Q (.int i) H) : rInt1 [.int i] H Q := .inl (.inl ⟨i, rfl, q⟩)
theorem x_intB {b : Bool} (q : Q (.int (if b then 1 else 0)) H) : rInt1 [.bl b] H Q := .inl (.inr ⟨b, rfl, q⟩)
theorem x_intS {z : Str} {n : Int} (h : PySem.intText? z = some n) (hl : z.length ≤ 640) (q : Q (.int n) H) : rInt1 [.str z] H Q := .inr ⟨z, n, rfl, h, hl, q⟩
theorem x_abs (q : Q (.int (if i < 0 then -i else i)) H) : rAbs1 [.int i] H Q := ⟨i, rfl, q⟩
theorem x_isN (q : Q (.bl (decide (x = .non))) H) : rIs1 x .non H Q := .inl ⟨rfl, q⟩
theorem x_isB {b : Bool} (q : Q (.bl (decide (x = .bl b))) H) : rIs1 x (.bl b) H Q := .inr ⟨b, rfl, q⟩
theorem x_notN (q : Q (.bl (!decide (x = .non))) H) : rIsNot1 x .non H Q := ⟨rfl, q⟩
theorem x_neg (q : Q (.int (-i)) H) : rNeg1 (.int i) H Q := ⟨i, rfl, q⟩
theorem x_pow (h : CPow i j) (q : Q (.int (i ^ j.toNat)) H) : rPow1 (.int i) (.int j) H Q := ⟨i, j, rfl, rfl, h, q⟩
theorem x_div (h : CDivW i j) (q : Q (.int (i / j)) H) : rDiv1 (.int i) (.int j) H Q := ⟨i, j, rfl, rfl, h, q⟩
theorem cdiv (h0 : 0 < j) (h : j < 2 ^ 8000) : CDivW i j := wide_div h0 (b := 8000) (by omega) (by decide) (by decide)
theorem x_tr {ta : TE} {R : Bool → Hp → Prop} (h : ta σ H fun x H' => ∃ k, TruV K x H' k ∧ R k H') : tTr K ta σ H R := h
theorem x_trB {b : Bool} {R : Bool → Prop} (q : R b) : ∃ k, TruV K (.bl b) H k ∧ R k := ⟨b, rfl, q⟩
theorem x_gsub {to ti : TE} {t : TSet} {R : L2.St → Hp → Prop} (h : to σ H fun o H1 => ti σ H1 fun i H2 => t o i v H2 fun H3 => R σ H3) : gSub to ti t v σ H R := h
theorem x_setL (s : S F cs H) {k : Nat} (hc : cs[k]? = some (p, .lst xs)) {n : Nat} (e : ixN xs.length i = some n) {R : Hp → Prop} (q : ∀ H', S F (cs.set k (p, .lst (xs.set n v))) H' → R H') : rSetL (.ref p) (.int i) v H R :=
  ⟨p, xs, i, n, rfl, rfl, s.at k hc, e, q _ (s.set k hc _)⟩
theorem x_append (s : S F cs H) {k : Nat} (hc : cs[k]? = some (p, .lst xs)) (hl : xs.length < sizeLine) (q : ∀ H', S F (cs.set k (p, .lst (xs ++ [v]))) H' → Q .non H') : rAppend (.ref p) [v] H Q :=
  ⟨p, xs, v, rfl, rfl, s.at k hc, hl, q _ (s.set k hc _)⟩
theorem x_bm {T : String} {r : V → List V → Hp → VK → Prop} {to : TE} {t : TA} (h : to σ H fun x H1 => tyV K T x H1 ∧ t σ H1 fun xs H2 => r x xs H2 Q) : tBM K T r to t σ H Q := h
theorem x_tyL (h : SqL K H p xs) {A : Prop} (q : A) : tyV K "list" (.ref p) H ∧ A := ⟨.inl ⟨rfl, xs, h⟩, q⟩
theorem x_tyC (s : S F cs H) (h : (p, .lst xs) ∈ cs) {A : Prop} (q : A) : tyV K "list" (.ref p) H ∧ A := ⟨.inl ⟨rfl, xs, sq_l (s.has h)⟩, q⟩
theorem perm_front {α : Type} : ∀ {l : List α} {k : Nat} {x : α}, l[k]? = some x → (x :: l.eraseIdx k).Perm l
  | [], _, _, h => by simp at h
  | a :: r, 0, x, h => by
    have e : a = x := by simpa using h
    subst e
    exact List.Perm.refl _
  | a :: r, k + 1, x, h => by
    have ih := perm_front (l := r) (k := k) (x := x) (by simpa using h)
    exact (List.Perm.swap a x _).trans (ih.cons a)
theorem perm_set {α : Type} : ∀ {l : List α} {k : Nat} {x y : α}, l[k]? = some x → (y :: l.eraseIdx k).Perm (l.set k y)
  | [], _, _, _, h => by simp at h
  | a :: r, 0, x, y, h => List.Perm.refl _
  | a :: r, k + 1, x, y, h => by
    have ih := perm_set (l := r) (k := k) (x := x) (y := y) (by simpa using h)
    exact (List.Perm.swap a y _).trans (ih.cons a)
theorem S.front (s : S F cs H) {k : Nat} {c : Addr × HO} (h : cs[k]? = some c) : S F (c :: cs.eraseIdx k) H := by
  exact s.perm (perm_front h).symm
theorem S.back {k : Nat} {c c' : Addr × HO} (h : cs[k]? = some c) (s : S F (c' :: cs.eraseIdx k) H) : S F (cs.set k c') H := by
  exact s.perm (perm_set h)
end
end My

/-! ### loops -/
namespace My
open PySem PySem.Spec L2
/-- a list (true) or a tuple (false) that is to be read -/
def SqB : Bool → PySem.W.Frag → Hp → Addr → List V → Prop
  | true => SqL
  | false => SqT
def ItB : Bool → PySem.W.Frag → Addr → It
  | true, K, p => Itl K p
  | false, K, p => Itt K p
instance {b : Bool} {K : PySem.W.Frag} {a : Addr} {xs : List V} : Mono (fun H => SqB b K H a xs) := ⟨fun _ _ e h => by
  cases b
  · exact Same.seqT e h
  · exact Same.seq e h⟩
theorem SqB.or {b : Bool} {K : PySem.W.Frag} {H : Hp} {a : Addr} {xs : List V} (h : SqB b K H a xs) : SqL K H a xs ∨ SqT K H a xs := by
  cases b
  · exact .inr h
  · exact .inl h
section
variable {σ : L2.St} {H : Hp} {Q : VK} {K : PySem.W.Frag} {F : Hp → Prop} {cs : List (Addr × HO)} {p q : Addr} {x y v : V} {xs ys : List V} {i j : Int} {b : Bool}
variable {nx : L2.St → Hp → Prop} {rt : VK} {g : TG} {tb : TS} {tt : TT} {te : TE} {vs : List Nat}
/-- what a for asks of its iterator -/
def ForW (J : It) (σ : L2.St) (H1 : Hp) (nx : L2.St → Hp → Prop) (rt : VK) (g : TG) (tb : TS) : Prop := ∃ W : Nat → Nat → L2.St → Hp → Prop, (∃ m, W 0 m σ H1) ∧ ∀ i m σ H, W i m σ H →
  (J.stop i H ∧ nx σ H) ∨ (J.go i H ∧ ∃ N : L2.St → Hp → Prop, (∀ σ' H', N σ' H' → ∃ m', m' < m ∧ W (i + 1) m' σ' H') ∧ ∀ x H', J.yld i H x H' → g x σ H' fun σ2 H2 => tb ⟨N, rt, nx, N⟩ σ2 H2)
theorem x_forW {wi : TI} {bk ct : L2.St → Hp → Prop} (h : wi σ H fun J H1 => ForW J σ H1 nx rt g tb) : tFor wi g tb ⟨nx, rt, bk, ct⟩ σ H := h
theorem forW_it {J : It} {n : Nat} {G : Hp → Prop} {Y : Nat → Hp → V → Hp → Prop} (w : Walk J n G Y) (Pv : Nat → L2.St → Hp → Prop) (h0 : Pv 0 σ H) (hG : ∀ i σ H, i ≤ n → Pv i σ H → G H)
    (hs : ∀ i x σ H H', i < n → Pv i σ H → Y i H x H' → g x σ H' fun σ2 H2 => tb ⟨Pv (i + 1), rt, nx, Pv (i + 1)⟩ σ2 H2) (hd : ∀ σ H, Pv n σ H → nx σ H) : ForW J σ H nx rt g tb :=
  for_it (D := ⟨nx, rt, nx, nx⟩) w Pv h0 hG hs hd
theorem x_iSq {R : It → Hp → Prop} {tl : TE} (h : tl σ H fun x H1 => ∃ a, x = .ref a ∧ (((∃ xs, SqL K H1 a xs) ∧ R (Itl K a) H1) ∨ ((∃ xs, SqT K H1 a xs) ∧ R (Itt K a) H1))) : iSq K tl σ H R := h
theorem x_iR1 {R : It → Hp → Prop} {ta : TA} (h : ta σ H fun vs H1 => ∃ j : Int, vs = [.int j] ∧ -(2 ^ 62) ≤ j ∧ j < 2 ^ 62 ∧ R (Itr 0 j.toNat) H1) : iRng1 ta σ H R := h
theorem x_iR2 {R : It → Hp → Prop} {ta : TA} (h : ta σ H fun vs H1 => ∃ i j : Int, vs = [.int i, .int j] ∧ (-(2 ^ 62) ≤ i ∧ i < 2 ^ 62 ∧ -(2 ^ 62) ≤ j ∧ j < 2 ^ 62) ∧ R (Itr i (j - i).toNat) H1) : iRng2 ta σ H R := h
theorem x_iStr {R : It → Hp → Prop} {te : TE} (h : te σ H fun v H1 => ∃ x, v = .str x ∧ R (Its x) H1) : iStr te σ H R := h
theorem x_sqR {R : It → Hp → Prop} (h : SqB b K H p xs) (q : R (ItB b K p) H) : ∃ a, V.ref p = .ref a ∧ (((∃ xs, SqL K H a xs) ∧ R (Itl K a) H) ∨ ((∃ xs, SqT K H a xs) ∧ R (Itt K a) H)) := by
  cases b
  · exact ⟨p, rfl, .inr ⟨⟨xs, h⟩, q⟩⟩
  · exact ⟨p, rfl, .inl ⟨⟨xs, h⟩, q⟩⟩
theorem walk_b : Walk (ItB b K p) xs.length (fun H => SqB b K H p xs) (YAt xs) := by
  cases b
  · exact walk_tup
  · exact walk_list
/-- for x in (a list or a tuple) -/
theorem x_forB (hq : SqB b K H p xs) (Pv : Nat → L2.St → Hp → Prop) (h0 : Pv 0 σ H) (hG : ∀ i σ H, Pv i σ H → SqB b K H p xs)
    (hs : ∀ i x σ H, xs[i]? = some x → Pv i σ H → g x σ H fun σ2 H2 => tb ⟨Pv (i + 1), rt, nx, Pv (i + 1)⟩ σ2 H2) (hd : ∀ σ H, Pv xs.length σ H → nx σ H) :
    ∃ a, V.ref p = .ref a ∧ (((∃ xs, SqL K H a xs) ∧ ForW (Itl K a) σ H nx rt g tb) ∨ ((∃ xs, SqT K H a xs) ∧ ForW (Itt K a) σ H nx rt g tb)) :=
  x_sqR (R := fun J H => ForW J σ H nx rt g tb) hq (forW_it walk_b Pv h0 (fun i σ H _ h => hG i σ H h) (fun i x σ H H' hi hp y => by
    obtain ⟨rfl, hx⟩ := y
    exact hs i x σ H' hx hp) hd)
/-- for i in range(n) -/
theorem x_forR1 {n : Nat} (hj : j = (n : Int)) (hn : n < 2 ^ 61) (Pv : Nat → L2.St → Hp → Prop) (h0 : Pv 0 σ H)
    (hs : ∀ i σ H, i < n → Pv i σ H → g (.int (i : Nat)) σ H fun σ2 H2 => tb ⟨Pv (i + 1), rt, nx, Pv (i + 1)⟩ σ2 H2) (hd : ∀ σ H, Pv n σ H → nx σ H) :
    ∃ k : Int, [V.int j] = [.int k] ∧ -(2 ^ 62) ≤ k ∧ k < 2 ^ 62 ∧ ForW (Itr 0 k.toNat) σ H nx rt g tb := by
  subst hj
  refine ⟨n, rfl, by omega, by omega, ?_⟩
  have e : ((n : Int)).toNat = n := Int.toNat_natCast n
  rw [e]
  refine forW_it walk_range Pv h0 (fun _ _ _ _ _ => True.intro) (fun i x σ H H' hi hp y => ?_) hd
  obtain ⟨rfl, rfl⟩ := y
  have e0 : (0 : Int) + (i : Nat) = (i : Nat) := Int.zero_add _
  show g (.int (0 + (i : Nat))) σ H' _
  rw [e0]
  exact hs i σ H' hi hp
/-- for i in range(a, b) -/
theorem x_forR2 {n : Nat} (hi0 : -(2 ^ 61) ≤ i ∧ i < 2 ^ 61) (hj : j = i + (n : Int)) (hn : n < 2 ^ 61) (Pv : Nat → L2.St → Hp → Prop) (h0 : Pv 0 σ H)
    (hs : ∀ (m : Nat) σ H, m < n → Pv m σ H → g (.int (i + (m : Nat))) σ H fun σ2 H2 => tb ⟨Pv (m + 1), rt, nx, Pv (m + 1)⟩ σ2 H2) (hd : ∀ σ H, Pv n σ H → nx σ H) :
    ∃ k l : Int, [V.int i, V.int j] = [.int k, .int l] ∧ (-(2 ^ 62) ≤ k ∧ k < 2 ^ 62 ∧ -(2 ^ 62) ≤ l ∧ l < 2 ^ 62) ∧ ForW (Itr k (l - k).toNat) σ H nx rt g tb := by
  subst hj
  refine ⟨i, _, rfl, by omega, ?_⟩
  have e : (i + (n : Int) - i).toNat = n := by omega
  rw [e]
  refine forW_it walk_range Pv h0 (fun _ _ _ _ _ => True.intro) (fun m x σ H H' hi hp y => ?_) hd
  obtain ⟨rfl, rfl⟩ := y
  exact hs m σ H' hi hp
/-- for c in text -/
theorem x_forS {z : Str} (Pv : Nat → L2.St → Hp → Prop) (h0 : Pv 0 σ H)
    (hs : ∀ (m : Nat) c σ H, z.cps[m]? = some c → Pv m σ H → g (.str ⟨#[c]⟩) σ H fun σ2 H2 => tb ⟨Pv (m + 1), rt, nx, Pv (m + 1)⟩ σ2 H2) (hd : ∀ σ H, Pv z.cps.size σ H → nx σ H) :
    ∃ x, V.str z = .str x ∧ ForW (Its x) σ H nx rt g tb := by
  refine ⟨z, rfl, forW_it walk_str Pv h0 (fun _ _ _ _ _ => True.intro) (fun m x σ H H' hi hp y => ?_) hd⟩
  obtain ⟨rfl, c, hc, rfl⟩ := y
  exact hs m c σ H' hc hp
/-! comprehensions -/
def LcW (J : It) (σ : L2.St) (H1 : Hp) (Q : VK) (g : TG) (tt : TT) (te : TE) (vs : List Nat) : Prop := ∀ D, H1 D = none → ∃ W : Nat → Nat → Hp → Prop, (∃ m, W 0 m (upd H1 D (.lst []))) ∧ ∀ i m H, W i m H →
  (J.stop i H ∧ Q (.ref D) H) ∨ (J.go i H ∧ ∃ Nx : Hp → Prop, (∀ H', Nx H' → ∃ m', m' < m ∧ W (i + 1) m' H') ∧ ∀ x H', J.yld i H x H' → g x (wipe σ vs) H' fun σ2 H2 => wipe σ2 vs = wipe σ vs ∧ tt σ2 H2 fun b H3 =>
    if b = true then te σ2 H3 fun y H4 => ∃ acc, H4 D = some (.lst acc) ∧ acc.length < sizeLine ∧ Nx (upd H4 D (.lst (acc ++ [y]))) else Nx H3)
theorem x_lcW {wi : TI} (h : wi σ H fun J H1 => LcW J σ H1 Q g tt te vs) : tLc wi g tt te vs σ H Q := h
theorem lcW_it {J : It} {n : Nat} {G : Hp → Prop} {Y : Nat → Hp → V → Hp → Prop} (w : Walk J n G Y) (Pv : Addr → Nat → Hp → Prop) (h0 : ∀ D, H D = none → Pv D 0 (upd H D (.lst []))) (hG : ∀ D i H, i ≤ n → Pv D i H → G H)
    (hs : ∀ D i x H H', i < n → Pv D i H → Y i H x H' → g x (wipe σ vs) H' fun σ2 H2 => wipe σ2 vs = wipe σ vs ∧ tt σ2 H2 fun b H3 =>
      if b = true then te σ2 H3 fun y H4 => ∃ acc, H4 D = some (.lst acc) ∧ acc.length < sizeLine ∧ Pv D (i + 1) (upd H4 D (.lst (acc ++ [y]))) else Pv D (i + 1) H3) (hd : ∀ D H, Pv D n H → Q (.ref D) H) : LcW J σ H Q g tt te vs :=
  fun D hD => lc_it w (Pv D) (h0 D hD) (hG D) (hs D) (hd D)
theorem x_lcB (hq : SqB b K H p xs) (Pv : Addr → Nat → Hp → Prop) (h0 : ∀ D, H D = none → Pv D 0 (upd H D (.lst []))) (hG : ∀ D i H, Pv D i H → SqB b K H p xs)
    (hs : ∀ D i x H, xs[i]? = some x → Pv D i H → g x (wipe σ vs) H fun σ2 H2 => wipe σ2 vs = wipe σ vs ∧ tt σ2 H2 fun b H3 =>
      if b = true then te σ2 H3 fun y H4 => ∃ acc, H4 D = some (.lst acc) ∧ acc.length < sizeLine ∧ Pv D (i + 1) (upd H4 D (.lst (acc ++ [y]))) else Pv D (i + 1) H3) (hd : ∀ D H, Pv D xs.length H → Q (.ref D) H) :
    ∃ a, V.ref p = .ref a ∧ (((∃ xs, SqL K H a xs) ∧ LcW (Itl K a) σ H Q g tt te vs) ∨ ((∃ xs, SqT K H a xs) ∧ LcW (Itt K a) σ H Q g tt te vs)) :=
  x_sqR (R := fun J H => LcW J σ H Q g tt te vs) hq (lcW_it walk_b Pv h0 (fun D i H _ h => hG D i H h) (fun D i x H H' hi hp y => by
    obtain ⟨rfl, hx⟩ := y
    exact hs D i x H' hx hp) hd)
theorem x_lcR1 {n : Nat} (hj : j = (n : Int)) (hn : n < 2 ^ 61) (Pv : Addr → Nat → Hp → Prop) (h0 : ∀ D, H D = none → Pv D 0 (upd H D (.lst [])))
    (hs : ∀ D i H, i < n → Pv D i H → g (.int (i : Nat)) (wipe σ vs) H fun σ2 H2 => wipe σ2 vs = wipe σ vs ∧ tt σ2 H2 fun b H3 =>
      if b = true then te σ2 H3 fun y H4 => ∃ acc, H4 D = some (.lst acc) ∧ acc.length < sizeLine ∧ Pv D (i + 1) (upd H4 D (.lst (acc ++ [y]))) else Pv D (i + 1) H3) (hd : ∀ D H, Pv D n H → Q (.ref D) H) :
    ∃ k : Int, [V.int j] = [.int k] ∧ -(2 ^ 62) ≤ k ∧ k < 2 ^ 62 ∧ LcW (Itr 0 k.toNat) σ H Q g tt te vs := by
  subst hj
  refine ⟨n, rfl, by omega, by omega, ?_⟩
  have e : ((n : Int)).toNat = n := Int.toNat_natCast n
  rw [e]
  refine lcW_it walk_range Pv h0 (fun _ _ _ _ _ => True.intro) (fun D i x H H' hi hp y => ?_) hd
  obtain ⟨rfl, rfl⟩ := y
  have e0 : (0 : Int) + (i : Nat) = (i : Nat) := Int.zero_add _
  show g (.int (0 + (i : Nat))) (wipe σ vs) H' _
  rw [e0]
  exact hs D i H' hi hp
theorem x_yes0 {R : Bool → Hp → Prop} (q : R true H) : tYes σ H R := q
/-- the new item of a comprehension's list -/
theorem x_lcput {D : Addr} {acc : List V} {P : Hp → Prop} (s : S F ((D, .lst acc) :: cs) H) (hl : acc.length < sizeLine) (k : ∀ H', S F ((D, .lst (acc ++ [v])) :: cs) H' → P H') :
    ∃ acc, H D = some (.lst acc) ∧ acc.length < sizeLine ∧ P (upd H D (.lst (acc ++ [v]))) := ⟨acc, s.at 0 rfl, hl, k _ (s.set 0 rfl _)⟩
/-! isinstance -/
theorem x_isi {T U : String} {r : Bool} (ht : TyX K H x (.type T)) (hk : kitB T U = some r) (q : Q (.bl r) H) : rIsi1 K [x, .ty U] H Q :=
  .inl ⟨x, _, _, _, r, rfl, .ty U, ht, kit_ty hk, q⟩
theorem tyx_l (h : SqL K H p xs) : TyX K H (.ref p) (.type "list") := by
  rcases h with (h | ⟨o, h⟩) | ⟨o, _, _, h, hc, _⟩
  · exact .base (.lst h)
  · exact .base (.frz h)
  · exact .kList h hc
theorem tyx_t (h : SqT K H p xs) : TyX K H (.ref p) (.type "tuple") := by
  rcases h with (h | ⟨o, h⟩) | ⟨o, _, _, h, hc, _⟩
  · exact .base (.tup h)
  · exact .fTuple h
  · exact .kTuple h hc
def tyName : PyData → String
  | .none => "NoneType"
  | .bool _ => "bool"
  | .int _ => "int"
  | .str _ => "str"
  | .list _ => "list"
  | .tuple _ => "tuple"
  | _ => "object"
theorem dp_ty {d : PyData} (h : Dp K H v d) : TyX K H v (.type (tyName d)) := by
  cases h with
  | non => exact .base .non
  | bl b => exact .base (.bl b)
  | int i => exact .base (.int i)
  | str z => exact .base (.str z)
  | lst h _ => exact tyx_l h
  | tup h _ => exact tyx_t h
theorem dpAll_len {vs : List V} {ds : List PyData} (h : DpAll K H vs ds) : vs.length = ds.length := by
  induction ds generalizing vs with
  | nil => cases h; rfl
  | cons d ds ih => cases h with | cons h k => simp [ih k]
theorem dpAll_get {vs : List V} {ds : List PyData} (h : DpAll K H vs ds) {n : Nat} {d : PyData} (hd : ds[n]? = some d) : ∃ v, vs[n]? = some v ∧ Dp K H v d := by
  induction ds generalizing vs n with
  | nil => simp at hd
  | cons e ds ih =>
    cases h with
    | cons h k =>
      cases n with
      | zero => exact ⟨_, rfl, by simpa using (show e = d by simpa using hd) ▸ h⟩
      | succ n =>
        obtain ⟨w, hw, q⟩ := ih k (n := n) (by simpa using hd)
        exact ⟨w, by simpa using hw, q⟩
end
end My

namespace My
open PySem PySem.Spec L2
structure DefKw (P : Program) (w : World) (K : PySem.W.Frag) (mg : Str → Option Value) (base : Heap) (x : Str) (k : Nat) (ps : List Str) (n : Nat) (ks : List Str) (gV : List V → List V → List V) (sp : Sp) : Prop where
  ex : ∃ (f : Addr) (fd : FuncData) (g : List Value → List Value → List Value), FnOk P w K mg base (L2.CX P w) k f fd ps sp ∧ mg x = some (.ref f) ∧ PySem.W.keepIn K (.ref f) = true ∧ KBn K fd ps n ks g gV
theorem pe_defK {X : Cx} {k n : Nat} {sp : Sp} {E : XK} {x : Str} {p pos : Pos} {e : Expr} {es : List Expr} {kws : List Keyword} {t tk : TA} {ps ks : List Str} {gV : List V → List V → List V} (D : DefKw X.prog X.w X.K X.mg X.base x k ps n ks gV sp) (hr : Room k X.A) (hg : Gl X x)
    (hx : Passes (L2.CX X.prog X.w) X E) (ha : PA X (e :: es) t) (hkw : PK X kws tk) (hall : (backToKw pos (keywordEach kws X.env)).all (·.1.isSome) = true := by rfl)
    (hks : (backToKw pos (keywordEach kws X.env)).filterMap (·.1) = ks := by rfl) (hdb : (x == ("__debug__" : Str)) = false := by decide) (he : starEach (e :: es) X.env = (false, eval e X.env) :: starEach es X.env := by rfl)
    (hpl : ((backTo pos (starEach (e :: es) X.env)).any (·.1) || (backToKw pos (keywordEach kws X.env)).any (·.1.isNone)) = false := by rfl) : PE X (.Call (.Name x p) (e :: es) kws pos) (tCallN n ks.length sp gV E t tk) := by
  obtain ⟨f, fd, g, F, hm, hk, hb⟩ := D.ex
  exact pe_callN F hr hg hm hk hb hx ha hkw hall hks hdb he hpl
end My

namespace My
open PySem PySem.Spec L2
section
variable {σ : L2.St} {H : Hp} {Q : VK} {K : PySem.W.Frag} {F : Hp → Prop} {cs : List (Addr × HO)} {p q : Addr} {x y v : V} {xs ys : List V} {i j : Int} {b : Bool}
variable {g : TG} {tt : TT} {te : TE} {vs : List Nat}
theorem big_sz {n : Nat} (h : n < 10000000) : n < sizeLine := Nat.lt_of_lt_of_le h (by decide)
theorem filterMap_take {α β : Type} (f : α → Option β) {l : List α} {n : Nat} {a : α} (h : l[n]? = some a) : (l.take (n + 1)).filterMap f = (l.take n).filterMap f ++ (f a).toList := by
  rw [List.take_add_one, h, List.filterMap_append]
  cases e : f a <;> simp [e]
/-- a comprehension that keeps the state: each item gives an element, or none -/
theorem x_lcFM (f : V → Option V) (s : S F cs H) (hq : ∀ B, F B → SqB b K B p xs) (hl : xs.length < 10000000)
    (hs : ∀ D acc x H (Put : VK) (Skip : Hp → Prop), x ∈ xs → (∀ y H', f x = some y → S F ((D, .lst acc) :: cs) H' → Put y H') → (∀ H', f x = none → S F ((D, .lst acc) :: cs) H' → Skip H') → S F ((D, .lst acc) :: cs) H →
      g x (wipe σ vs) H fun σ2 H2 => wipe σ2 vs = wipe σ vs ∧ tt σ2 H2 fun b H3 => if b = true then te σ2 H3 Put else Skip H3)
    (hd : ∀ D H, S F ((D, .lst (xs.filterMap f)) :: cs) H → Q (.ref D) H) :
    ∃ a, V.ref p = .ref a ∧ (((∃ xs, SqL K H a xs) ∧ LcW (Itl K a) σ H Q g tt te vs) ∨ ((∃ xs, SqT K H a xs) ∧ LcW (Itt K a) σ H Q g tt te vs)) := by
  refine x_lcB (hq _ s.fact) (fun D i H => i ≤ xs.length ∧ S F ((D, .lst ((xs.take i).filterMap f)) :: cs) H) (fun D hD => ⟨Nat.zero_le _, s.alloc hD⟩) (fun D i H h => hq _ h.2.fact) ?_ ?_
  · rintro D i x H hx ⟨hi, s⟩
    have hlt : i < xs.length := (List.getElem?_eq_some_iff.mp hx).1
    have hlen : ((xs.take i).filterMap f).length < sizeLine := big_sz (Nat.lt_of_le_of_lt (Nat.le_trans (List.length_filterMap_le _ _) (by rw [List.length_take]; omega)) hl)
    refine hs D _ x H _ _ (mem_of_get hx) ?_ ?_ s
    · intro y H4 h1 h2
      refine ⟨_, h2.at 0 rfl, hlen, hlt, ?_⟩
      rw [filterMap_take f hx, h1]
      exact h2.set 0 rfl _
    · intro H3 h1 h2
      refine ⟨hlt, ?_⟩
      rw [filterMap_take f hx, h1]
      simpa using h2
  · rintro D H ⟨_, s⟩
    rw [List.take_length] at s
    exact hd D H s
/-- by the place -/
theorem x_lcFI (f : Nat → Option V) (s : S F cs H) (hq : ∀ B, F B → SqB b K B p xs) {n : Nat} (hn : xs.length = n) (hl : n < 10000000)
    (hs : ∀ D acc i x H (Put : VK) (Skip : Hp → Prop), xs[i]? = some x → (∀ y H', f i = some y → S F ((D, .lst acc) :: cs) H' → Put y H') → (∀ H', f i = none → S F ((D, .lst acc) :: cs) H' → Skip H') → S F ((D, .lst acc) :: cs) H →
      g x (wipe σ vs) H fun σ2 H2 => wipe σ2 vs = wipe σ vs ∧ tt σ2 H2 fun b H3 => if b = true then te σ2 H3 Put else Skip H3)
    (hd : ∀ D H, S F ((D, .lst ((List.range n).filterMap f)) :: cs) H → Q (.ref D) H) :
    ∃ a, V.ref p = .ref a ∧ (((∃ xs, SqL K H a xs) ∧ LcW (Itl K a) σ H Q g tt te vs) ∨ ((∃ xs, SqT K H a xs) ∧ LcW (Itt K a) σ H Q g tt te vs)) := by
  subst hn
  refine x_lcB (hq _ s.fact) (fun D i H => i ≤ xs.length ∧ S F ((D, .lst ((List.range i).filterMap f)) :: cs) H) (fun D hD => ⟨Nat.zero_le _, s.alloc hD⟩) (fun D i H h => hq _ h.2.fact) ?_ (fun D H h => hd D H h.2)
  rintro D i x H hx ⟨hi, s⟩
  have hlt : i < xs.length := (List.getElem?_eq_some_iff.mp hx).1
  have hlen : ((List.range i).filterMap f).length < sizeLine := big_sz (Nat.lt_of_le_of_lt (Nat.le_trans (List.length_filterMap_le _ _) (by rw [List.length_range]; omega)) hl)
  refine hs D _ i x H _ _ hx ?_ ?_ s
  · intro y H4 h1 h2
    refine ⟨_, h2.at 0 rfl, hlen, hlt, ?_⟩
    rw [List.range_succ, List.filterMap_append]
    simp only [List.filterMap_cons, h1, List.filterMap_nil]
    exact h2.set 0 rfl _
  · intro H3 h1 h2
    refine ⟨hlt, ?_⟩
    rw [List.range_succ, List.filterMap_append]
    simp only [List.filterMap_cons, h1, List.filterMap_nil, List.append_nil]
    exact h2
/-- the same over range(n) -/
theorem x_lcFR (f : Nat → Option V) {n : Nat} (hj : j = (n : Int)) (hn : n < 10000000) (s : S F cs H)
    (hs : ∀ D acc i H (Put : VK) (Skip : Hp → Prop), i < n → (∀ y H', f i = some y → S F ((D, .lst acc) :: cs) H' → Put y H') → (∀ H', f i = none → S F ((D, .lst acc) :: cs) H' → Skip H') → S F ((D, .lst acc) :: cs) H →
      g (.int (i : Nat)) (wipe σ vs) H fun σ2 H2 => wipe σ2 vs = wipe σ vs ∧ tt σ2 H2 fun b H3 => if b = true then te σ2 H3 Put else Skip H3)
    (hd : ∀ D H, S F ((D, .lst ((List.range n).filterMap f)) :: cs) H → Q (.ref D) H) :
    ∃ k : Int, [V.int j] = [.int k] ∧ -(2 ^ 62) ≤ k ∧ k < 2 ^ 62 ∧ LcW (Itr 0 k.toNat) σ H Q g tt te vs := by
  refine x_lcR1 hj (Nat.lt_of_lt_of_le hn (by decide)) (fun D i H => S F ((D, .lst ((List.range i).filterMap f)) :: cs) H) (fun D hD => s.alloc hD) ?_ (fun D H s => hd D H s)
  intro D i H hi s
  have hlen : ((List.range i).filterMap f).length < sizeLine := big_sz (Nat.lt_of_le_of_lt (Nat.le_trans (List.length_filterMap_le _ _) (by rw [List.length_range]; omega)) hn)
  refine hs D _ i H _ _ hi ?_ ?_ s
  · intro y H4 h1 h2
    refine ⟨_, h2.at 0 rfl, hlen, ?_⟩
    rw [List.range_succ, List.filterMap_append]
    simp only [List.filterMap_cons, h1, List.filterMap_nil]
    exact h2.set 0 rfl _
  · intro H3 h1 h2
    rw [List.range_succ, List.filterMap_append]
    simp only [List.filterMap_cons, h1, List.filterMap_nil, List.append_nil]
    exact h2
end
/-! ### what stands in the written part, by a look -/
mutual
def kd (K : PySem.W.Frag) : PyData → Value → Bool
  | .none, .none => true
  | .bool a, .bool b => a == b
  | .int i, .int j _ => decide (i = j)
  | .str x, .str y _ => decide (x = y)
  | .tuple ds, .ref a => match K.lookup a with
    | some ⟨.type "tuple", _, .seq its _, _⟩ => decide (its.size ≤ 1000) && kdAll K ds its.toList
    | _ => false
  | _, _ => false
def kdAll (K : PySem.W.Frag) : List PyData → List Value → Bool
  | [], [] => true
  | d :: ds, u :: us => kd K d u && kdAll K ds us
  | _, _ => false
end
mutual
theorem kd_ok {K : PySem.W.Frag} : ∀ (d : PyData) (u : Value), kd K d u = true → ∃ v, RelV v u ∧ ∀ H, Dp K H v d
  | .none, .none, _ => ⟨.non, rfl, fun _ => .non⟩
  | .bool a, .bool b, h => ⟨.bl b, rfl, by
    have e : a = b := by simpa [kd] using h
    subst e
    exact fun _ => .bl a⟩
  | .int i, .int j t, h => ⟨.int i, by
    have e : i = j := by simpa [kd] using h
    subst e
    exact ⟨t, rfl⟩, fun _ => .int i⟩
  | .str x, .str y t, h => ⟨.str x, by
    have e : x = y := by simpa [kd] using h
    subst e
    exact ⟨t, rfl⟩, fun _ => .str x⟩
  | .tuple ds, .ref a, h => by
    unfold kd at h
    split at h
    · rename_i dd its n sl hk
      obtain ⟨h1, h2⟩ := Bool.and_eq_true_iff.mp h
      obtain ⟨vs, rv, dv⟩ := kdAll_ok ds its.toList h2
      exact ⟨.ref a, rfl, fun H => .tup (.inr ⟨_, its, n, hk, rfl, rfl, Nat.le_trans (of_decide_eq_true h1) (by decide), rv⟩) (dv H)⟩
    · cases h
  | .none, .bool _, h | .none, .int _ _, h | .none, .str _ _, h | .none, .ref _, h => by simp [kd] at h
theorem kdAll_ok {K : PySem.W.Frag} : ∀ (ds : List PyData) (us : List Value), kdAll K ds us = true → ∃ vs, Vals vs us ∧ ∀ H, DpAll K H vs ds
  | [], [], _ => ⟨[], .nil, fun _ => .nil⟩
  | d :: ds, u :: us, h => by
    unfold kdAll at h
    obtain ⟨h1, h2⟩ := Bool.and_eq_true_iff.mp h
    obtain ⟨v, r, q⟩ := kd_ok d u h1
    obtain ⟨vs, rs, qs⟩ := kdAll_ok ds us h2
    exact ⟨v :: vs, .cons r rs, fun H => .cons (q H) (qs H)⟩
  | [], _ :: _, h => by simp [kdAll] at h
  | _ :: _, [], h => by simp [kdAll] at h
end
theorem kd_tup {K : PySem.W.Frag} {ds : List PyData} {a : Addr} (h : kd K (.tuple ds) (.ref a) = true) : ∃ xs, ∀ H, SqT K H a xs ∧ DpAll K H xs ds := by
  unfold kd at h
  split at h
  · rename_i dd its n sl hk
    obtain ⟨h1, h2⟩ := Bool.and_eq_true_iff.mp h
    obtain ⟨vs, rv, dv⟩ := kdAll_ok ds its.toList h2
    exact ⟨vs, fun H => ⟨.inr ⟨_, its, n, hk, rfl, rfl, Nat.le_trans (of_decide_eq_true h1) (by decide), rv⟩, dv H⟩⟩
  · cases h
instance {H0 : Hp} : Mono (fun B => Same H0 B) := ⟨fun _ _ e h => h.trans e⟩
/-- facts of the written part hold anywhere -/
theorem S.addK {F G : Hp → Prop} {cs : List (Addr × HO)} {H : Hp} (s : S F cs H) (h : ∀ H, G H) (m : Mono G := by infer_instance) : S (fun B => G B ∧ F B) cs H := by
  have := s.mono
  exact s.imp fun B f => ⟨h B, f⟩
theorem start_s (H : Hp) : S (fun B => Same H B) [] H := S.of (Same.refl H)
/-- two ints in a tuple -/
theorem dp_pair {K : PySem.W.Frag} {H : Hp} {v : V} {i j : Int} (h : Dp K H v (.tuple [.int i, .int j])) : ∃ a, v = .ref a ∧ SqT K H a [.int i, .int j] := by
  cases h with | tup h k => ?_
  cases k with | cons h1 k => ?_
  cases k with | cons h2 k => ?_
  cases k
  cases h1
  cases h2
  exact ⟨_, rfl, h⟩
theorem x_band {i j : Int} {H : Hp} {Q : VK} (q : Q (.int (Builtin.bitAnd i j)) H) : rBitAnd1 (.int i) (.int j) H Q := ⟨i, j, rfl, rfl, q⟩
theorem x_bor {i j : Int} {H : Hp} {Q : VK} (q : Q (.int (Builtin.bitOr i j)) H) : rBitOr1 (.int i) (.int j) H Q := ⟨i, j, rfl, rfl, q⟩
theorem x_bxor {i j : Int} {H : Hp} {Q : VK} (q : Q (.int (Builtin.bitXor i j)) H) : rBitXor1 (.int i) (.int j) H Q := ⟨i, j, rfl, rfl, q⟩
theorem x_shr {i j : Int} {H : Hp} {Q : VK} (h : 0 ≤ j) (q : Q (.int (i / 2 ^ j.toNat)) H) : rShr1 (.int i) (.int j) H Q := ⟨i, j, rfl, rfl, h, q⟩
theorem x_shl {i j : Int} {H : Hp} {Q : VK} (h : CShl i j) (q : Q (.int (i * 2 ^ j.toNat)) H) : rShl1 (.int i) (.int j) H Q := ⟨i, j, rfl, rfl, h, q⟩
theorem x_gtup {K : PySem.W.Frag} {H : Hp} {σ : L2.St} {n : Nat} {t : TGs} {a : Addr} {xs : List V} {R : L2.St → Hp → Prop} (h : SqT K H a xs) (hl : xs.length = n) (q : t xs σ H R) : gTup K n t (.ref a) σ H R := ⟨a, xs, rfl, h, hl, q⟩
theorem x_gcons {t : TG} {u : TGs} {v : V} {r : List V} {σ : L2.St} {H : Hp} {R : L2.St → Hp → Prop} (h : t v σ H fun σ' H' => u r σ' H' R) : gCons t u (v :: r) σ H R := ⟨v, r, rfl, h⟩
theorem x_gnil {σ : L2.St} {H : Hp} {R : L2.St → Hp → Prop} (h : R σ H) : gNil [] σ H R := ⟨rfl, h⟩
theorem x_m1 {r : V → List V → Hp → VK → Prop} {to te : TE} {σ : L2.St} {H : Hp} {Q : VK} (h : to σ H fun x H1 => (∃ a, x = .str a) ∧ te σ H1 fun y H2 => r x [y] H2 Q) : tM1 r to te σ H Q := h
theorem x_isS {z : Str} {A : Prop} (q : A) : (∃ a, V.str z = .str a) ∧ A := ⟨⟨z, rfl⟩, q⟩
theorem x_callN {n m : Nat} {sp : Sp} {gV : List V → List V → List V} {E : XK} {t tk : TA} {σ : L2.St} {H : Hp} {Q : VK} (h : t σ H fun vs H1 => tk σ H1 fun zs H2 => vs.length = n ∧ zs.length = m ∧ sp (gV vs zs) H2 Q E) : tCallN n m sp gV E t tk σ H Q := h
end My

namespace My
open PySem L2
theorem vals_drop : ∀ {vs : List V} {us : List Value} (i : Nat), Vals vs us → Vals (vs.drop i) (us.drop i)
  | _, _, 0, h => h
  | _, _, i + 1, .nil => .nil
  | _, _, i + 1, .cons _ t => vals_drop i t
theorem vals_take : ∀ {vs : List V} {us : List Value} (i : Nat), Vals vs us → Vals (vs.take i) (us.take i)
  | _, _, 0, _ => .nil
  | _, _, i + 1, .nil => .nil
  | _, _, i + 1, .cons r t => .cons r (vals_take i t)
theorem vals_pick {vs : List V} {us : List Value} (i : Nat) (h : Vals vs us) : Vals ((vs.drop i).take 1) ((us.drop i).take 1) := vals_take 1 (vals_drop i h)
end My

namespace My
open PySem PySem.Spec L2
/-- the end of a law whose defs may raise, the written part found by a Hook -/
theorem walk_mine {l : PySem.W.OpenLaw} {n k : Nat} {q : Program} {loose : List Str} {XP : (Str → Option Value) → Heap → Prop} {YP : World → Heap → Prop} {d : DefRec} {x : Str}
    (hn : l.most = some n) (hs : n ≤ sizeLine) (hdf : d.params.defaults = []) (room : Room k callerA)
    (got : ∀ (w : World) (mg : Str → Option Value) (fa : Addr) (h : Heap), YP w h → h.Ns mainGlobals mg → mg d.name = some (.ref fa) →
      ∃ (K : PySem.W.Frag) (fd : FuncData) (sp : Sp), K.In h ∧ (∀ (s : Shared) (u : Value), BindsTo s fd ⟨[u], []⟩ [(x, u)]) ∧
        (∀ (H : Hp) (a : Addr) (ns : List Int), ns.length ≤ n → SqL K H a (ns.map V.int) → sp [.ref a] H (fun v _ => v = .bl true) fun _ _ _ => False) ∧
        ∀ base : Heap, K.In base → base.Ns mainGlobals mg → FnOk l.prog w K mg base (L2.CX l.prog w) k fa fd [x] sp) :
    PySem.W.WalkO q loose XP YP l.row.toRowW d [] (fun f vs => PySem.call f vs) := by
  refine Att.attach_call hn hdf ?_
  intro w s₀ s₁ mg mb fa o pm cd doc a vs ns G Y ho hd hcd hmg hobj hints hlen hg
  obtain ⟨K, fd, sp, inn, binds, asked, ok⟩ := got w mg fa _ Y G.T.g hmg
  refine law_call inn G.T.g G.T.b G.T.builtins G.T.nolimit hg hobj hints (Nat.le_trans hlen hs) room ok binds ?_ ?_
  · intro H _ hS
    exact asked H a ns hlen hS
  · intro H e s' c
    obtain ⟨_, _, _, _, _, _, _, _, _, _, _, _, z⟩ := c
    exact z
end My

namespace My
open PySem PySem.Spec L2
def opV : Option Int → V
  | none => .non
  | some i => .int i
def LET : List Nat := ("abcdefghijklmnopqrstuvwxyz" : Str).cps.toList
def DIG : List Nat := ("0123456789" : Str).cps.toList
theorem dig_iff (c : Nat) : c ∈ DIG ↔ 48 ≤ c ∧ c ≤ 57 := by
  have e : DIG = [48, 49, 50, 51, 52, 53, 54, 55, 56, 57] := by decide +kernel
  rw [e]
  simp only [List.mem_cons, List.not_mem_nil, or_false]
  omega
theorem str1_eq {c d : Nat} : (V.str ⟨#[c]⟩ = V.str ⟨#[d]⟩) = (c = d) := by simp
theorem str_head {z : Str} {c : Nat} (h : atI z.cps.toList 0 = some c) : z.cps.toList.head? = some c := by
  have : z.cps.toList[0]? = some c := by
    unfold atI at h
    cases e : ixN z.cps.toList.length 0 with
    | none => rw [e] at h; cases h
    | some j =>
      rw [e] at h
      unfold ixN at e
      rw [if_pos (by decide)] at e
      split at e
      · cases e; exact h
      · cases e
  rw [List.head?_eq_getElem?]
  exact this
theorem at_zero {z : Str} {c : Nat} (h : z.cps.toList.head? = some c) : atI z.cps.toList 0 = some c := by
  rw [List.head?_eq_getElem?] at h
  exact atI_nat (j := 0) h
theorem cps_get {z : Str} {m c : Nat} (h : z.cps[m]? = some c) : z.cps.toList[m]? = some c := by
  rw [Array.getElem?_toList]; exact h
theorem x_inS {c : Nat} {z : Str} {K : PySem.W.Frag} {H : Hp} {Q : VK} (q : Q (.bl (decide (c ∈ z.cps.toList))) H) : rIn1 K (.str ⟨#[c]⟩) (.str z) H Q := .inl ⟨c, z, rfl, rfl, q⟩
theorem x_ninS {c : Nat} {z : Str} {K : PySem.W.Frag} {H : Hp} {Q : VK} (q : Q (.bl (!decide (c ∈ z.cps.toList))) H) : rNotIn1 K (.str ⟨#[c]⟩) (.str z) H Q := .inl ⟨c, z, rfl, rfl, q⟩
theorem str_len {z : Str} : z.length = z.cps.toList.length := by simp [Str.length]
end My

namespace My
open PySem PySem.Spec L2
theorem str_is {c d : Nat} {s : Str} (e : s = ⟨#[d]⟩) : (V.str ⟨#[c]⟩ = V.str s) ↔ c = d := by subst e; simp
theorem sz5 {n : Nat} (h : n ≤ 1000000) : n ≤ sizeLine := Nat.le_trans h (by decide)
theorem x_split {z b : Str} {F : Hp → Prop} {cs : List (Addr × HO)} {H : Hp} {Q : VK} (s : S F cs H) (hb : (b.length == 0) = false) (hz : z.length ≤ 100000) (k : ∀ p H', S F ((p, .lst ((Txt.split z b).map V.str)) :: cs) H' → Q (.ref p) H') : rSplit1 (.str z) [.str b] H Q :=
  ⟨z, b, rfl, rfl, hb, sz5 (by omega), fun p hp => k p _ (s.alloc hp)⟩
theorem S.fresh {F : Hp → Prop} {cs : List (Addr × HO)} {H H0 : Hp} {c : Addr × HO} (s : S F cs H) (h : c ∈ cs) (e : ∀ B, F B → Same H0 B) : H0 c.1 = none := by
  obtain ⟨B, _, f, fr⟩ := s.ex
  exact (e B f).free (fr c h)
theorem S.freezeL {F : Hp → Prop} {cs : List (Addr × HO)} {H : Hp} {p : Addr} {xs : List V} {K : PySem.W.Frag} (s : S F ((p, .lst xs) :: cs) H) : S (fun B => SqB true K B p xs ∧ F B) cs H := by
  have := s.mono
  exact s.freeze fun B f e => ⟨sq_l e, f⟩
theorem S.freezeT {F : Hp → Prop} {cs : List (Addr × HO)} {H : Hp} {p : Addr} {xs : List V} {K : PySem.W.Frag} (s : S F ((p, .tup xs) :: cs) H) : S (fun B => SqB false K B p xs ∧ F B) cs H := by
  have := s.mono
  exact s.freeze fun B f e => ⟨sq_t e, f⟩
end My

namespace My
open PySem PySem.Spec L2
theorem x_orJ {A B : Bool} {H : Hp} {Q : VK} {σ : L2.St} {tb : TE} (hb : ∀ R : VK, R (.bl B) H → tb σ H R) (q : Q (.bl (A || B)) H) : if A = true then Q (.bl true) H else tb σ H Q := by
  cases A
  · exact iteF (hb _ q)
  · exact iteT q
theorem x_andJ {A B : Bool} {H : Hp} {Q : VK} {σ : L2.St} {tb : TE} (hb : ∀ R : VK, R (.bl B) H → tb σ H R) (q : Q (.bl (A && B)) H) : if A = true then tb σ H Q else Q (.bl false) H := by
  cases A
  · exact iteF q
  · exact iteT (hb _ q)
end My

namespace My
open PySem PySem.Spec L2
section
variable {σ : L2.St} {H : Hp} {Q : VK} {K : PySem.W.Frag} {F : Hp → Prop} {cs : List (Addr × HO)} {p q : Addr} {xs ys : List V}
theorem mulok {z : Str} {n : Int} (hz : z.length ≤ 1000) (h0 : 0 ≤ n) (h1 : n ≤ 1000) : MulOk z n := by
  refine ⟨?_, fun h2 _ => ?_, fun h2 _ => ?_⟩
  · rw [Bool.or_eq_false_iff]
    exact ⟨decide_eq_false (by omega), decide_eq_false (by omega)⟩
  · have : (1000 : Int) ≤ (2 ^ 63 - 1) / n := by
      refine Int.le_ediv_of_mul_le (by omega) ?_
      omega
    omega
  · have h3 : z.length * n.toNat ≤ 1000 * 1000 := Nat.mul_le_mul hz (by omega)
    unfold PySem.Builtin.Str.tooLong
    rw [decide_eq_false]
    have : 1000 * 1000 ≤ sizeLine := by decide
    omega
theorem x_mulS {z : Str} {n : Int} (h : MulOk z n) (q : Q (.str (Txt.mul z n)) H) : rMul1 K (.str z) (.int n) H Q := .inr (.inr (.inr ⟨z, n, rfl, rfl, h, q⟩))
theorem x_sl {r : V → Option Int → Option Int → Hp → VK → Prop} {te : TE} {tl th : TO} (h : te σ H fun x H1 => tl σ H1 fun l H2 => th σ H2 fun u H3 => r x l u H3 Q) : tSl r te tl th σ H Q := h
theorem x_np {R : Option Int → Hp → Prop} (q : R none H) : tNoPart σ H R := q
theorem x_pt {te : TE} {R : Option Int → Hp → Prop} (h : te σ H fun x H1 => ∃ i, x = .int i ∧ R (some i) H1) : tPart te σ H R := h
theorem x_exi {i : Int} {R : Int → Prop} (q : R i) : ∃ k, V.int i = .int k ∧ R k := ⟨i, rfl, q⟩
theorem x_slL {lo hi : Option Int} (h : SqL K H p xs) (s : S F cs H) (k : ∀ r H', S F ((r, .lst (cutV xs lo hi)) :: cs) H' → Q (.ref r) H') : rSlL K (.ref p) lo hi H Q := ⟨p, xs, rfl, h, fun r hr => k r _ (s.alloc hr)⟩
theorem x_listof (h : SqL K H p xs ∨ SqT K H p xs) (s : S F cs H) (k : ∀ r H', S F ((r, .lst xs) :: cs) H' → Q (.ref r) H') : rList1 K [.ref p] H Q := ⟨p, xs, rfl, h, fun r hr => k r _ (s.alloc hr)⟩
theorem x_tupof (h : SqL K H p xs) (s : S F cs H) (k : ∀ r H', S F ((r, .tup xs) :: cs) H' → Q (.ref r) H') : rTuple1 K [.ref p] H Q := ⟨p, xs, rfl, .inl ⟨h, fun r hr => k r _ (s.alloc hr)⟩⟩
theorem x_tupofT (h : SqT K H p xs) (q : Q (.ref p) H) : rTuple1 K [.ref p] H Q := ⟨p, xs, rfl, .inr ⟨h, q⟩⟩
theorem mem_cutV {v : V} {lo hi : Option Int} (h : v ∈ cutV xs lo hi) : v ∈ xs := List.mem_of_mem_drop (List.mem_of_mem_take h)
theorem forR_all {α : Type} {P : α → Prop} {l : List α} {i : Nat} {x : α} (h : ∀ v ∈ l, P v) (e : l[i]? = some x) : P x := h x (mem_of_get e)
end
end My
namespace My
open PySem PySem.Spec L2
theorem x_cut {t u : TS} {nx bk ct : L2.St → Hp → Prop} {rt : VK} {σ : L2.St} {H : Hp} (Mid : L2.St → Hp → Prop) (h1 : t ⟨Mid, rt, bk, ct⟩ σ H) (h2 : ∀ σ' H', Mid σ' H' → u ⟨nx, rt, bk, ct⟩ σ' H') : C8.tCut t u ⟨nx, rt, bk, ct⟩ σ H := ⟨Mid, h1, h2⟩
end My

namespace My
open PySem PySem.Spec L2 PyProof.Rows
/-! ### enumerate of a tuple -/
theorem meets_enum1 {v : Value} {o : Obj} {H : Heap → Prop} (B : Begins v o H) :
    Meets (Builtin.«enumerate.__new__» ⟨[.type "enumerate", v], []⟩) (fun _ R s => H s.heap ∧
      R (.ok (.ret (.ref (s.heap.push o).objs.size))) { s with heap := (s.heap.push o).push { cls := .type "enumerate", data := .fields #[.none, .bool false, .ref s.heap.objs.size, rawInt 0, .none, .none] } }) :=
  .of_wp fun prog w A R s h => by
    obtain ⟨hp, g, d, tk, os⟩ := s; obtain ⟨h1, h⟩ := h
    have hsub := sub_enumerate
    have q1 : ∀ {A' : Around} {E : Value → Shared → Prop} {Q : Value → Shared → Prop}, Q (.ref hp.objs.size) ⟨hp.push o, g, d, tk, os⟩ → wpAny (model prog w) A' (pyIter v) Q E ⟨hp, g, d, tk, os⟩ :=
      fun q => B.iter prog w _ _ ⟨hp, g, d, tk, os⟩ _ h1 q
    wp_walk using q1
    refine wpAny_stack_any fun st => wpAny_pure ?_
    split
    · rename_i c _ _ _ _ _
      cases (c == Value.type "enumerate")
      · wp_walk using q1
        exact ⟨_, rfl, h⟩
      · wp_walk using q1
        exact ⟨_, rfl, h⟩
    · wp_walk using q1
      exact ⟨_, rfl, h⟩
section
variable {prog : Program} {w : World} {A : Around} {E : Value → Shared → Prop} {s : Shared}
theorem call_enumT {l : Addr} {items : Array Value} {Q : Value → Shared → Prop} (hL : s.heap.IsTuple l items)
    (h : ∀ h', IsEnum h' (s.heap.objs.size + 1) s.heap.objs.size 0 .none → h'.IsTupleIter s.heap.objs.size l 0 → h'.objs.size = s.heap.objs.size + 2 →
      (∀ b o, s.heap.get? b = some o → h'.get? b = some o) → Q (.ref (s.heap.objs.size + 1)) { s with heap := h' }) :
    wpAny (model prog w) A (call (.type "enumerate") [.ref l]) Q E s := by
  refine callType_new F.called_enumerate (by decide) (F.typeCall_enumerate_1 _) (F.newCall_enumerate_1 _) (fun obj => F.args_object_init_2 obj _) F.entry_enumerate_new
    (meets_enum1 (begins_tuple l items)) ⟨hL, ?_⟩
  generalize ho : ({ cls := .type "tuple_iterator", data := .fields #[.ref l, .int 0 0] } : Obj) = o
  have hz : (s.heap.push o).objs.size = s.heap.objs.size + 1 := Heap.size_push ..
  show _ ∧ _
  rw [hz]
  have he : IsEnum ((s.heap.push o).push { cls := .type "enumerate", data := .fields #[.none, .bool false, .ref s.heap.objs.size, rawInt 0, .none, .none] }) (s.heap.objs.size + 1) s.heap.objs.size 0 .none := by
    have := Heap.get?_push_size (s.heap.push o) (o := { cls := .type "enumerate", data := .fields #[.none, .bool false, .ref s.heap.objs.size, rawInt 0, .none, .none] }) rfl
    rw [hz] at this; exact this
  subst ho
  exact ⟨⟨_, he, rfl⟩, h _ he ⟨_, Heap.get?_push_of_some _ (Heap.get?_push_size _ rfl), rfl, rfl⟩ (by rw [Heap.size_push, hz]) fun b o x => Heap.get?_push_of_some _ (Heap.get?_push_of_some _ x)⟩
end
/-- the tuple at a, each item in a new pair -/
def IteT (K : PySem.W.Frag) (a : Addr) : It :=
  ⟨fun i H => ∃ (xs : List V) (x : V), SqT K H a xs ∧ xs[i]? = some x, fun i H v H' => ∃ T x, v = .ref T ∧ H T = none ∧ H' = upd H T (.tup [.int (i : Nat), x]) ∧ ∀ xs, SqT K H a xs → xs[i]? = some x, fun i H => ∃ xs : List V, SqT K H a xs ∧ xs.length ≤ i⟩
theorem turn_enumT {P : Program} {w : World} {K : PySem.W.Frag} {elts : List Expr} {kk : Nat} {tpos : Pos} (a e it : Addr) :
    Turn P w K (.Tuple elts kk tpos) (IteT K a) [e, it] e (fun i h => (∃ old, IsEnum h e it ((i : Nat) : Int) old) ∧ h.IsTupleIter it a i ∧ e ≠ it) where
  mem := by simp
  obj := fun i h st b hb => by
    obtain ⟨⟨old, he⟩, ⟨o, ho, hc, hd⟩, _⟩ := st
    have e' : b = e ∨ b = it := by simpa using hb
    rcases e' with z | z
    · rw [z]; exact ⟨_, he, fun v q => nomatch q⟩
    · rw [z]; exact ⟨o, ho, fun v q => by rw [hd] at q; cases q⟩
  keep := fun i h h' st k => let ⟨⟨old, he⟩, hi, hne⟩ := st; ⟨⟨old, k e (by simp) _ he⟩, hi.at fun o q => k it (by simp) o q, hne⟩
  item := by
    intro X hP hw hK hc i pins s σ H E I hf st hg
    subst hP hw hK
    obtain ⟨⟨old, he⟩, hit, hne⟩ := st
    obtain ⟨xs, x, hq, hx⟩ := hg
    obtain ⟨its, rv, p, hz⟩ := I.tuple hq
    obtain ⟨u, hu, ru⟩ := rv.get hx
    have hel : e < s.heap.objs.size := Heap.lt_size he
    have hil : it < s.heap.objs.size := by obtain ⟨_, q, _⟩ := hit; exact Heap.lt_size q
    have p' : s.heap.IsTuple a its.toArray := p
    have hea : e ≠ a := by
      intro z
      obtain ⟨o, ho, hcl, _⟩ := id p'
      rw [← z, he] at ho
      cases ho
      exact absurd hcl (by simp)
    have hia : a ≠ it := by
      intro z
      obtain ⟨o, ho, hcl, _⟩ := id p'
      obtain ⟨o2, ho2, hcl2, _⟩ := id hit
      rw [z, ho2] at ho
      cases ho
      rw [hcl2] at hcl
      exact absurd hcl (by simp)
    have hlt : i < its.toArray.size := by
      have := (List.getElem?_eq_some_iff.mp hu).1
      simpa using this
    refine wpAny_pyNext_enum_itemD (Draws.tuple (A := X.A.in1) (show X.A.in1.handled = none from I.ok.hd hc) it a hia its.toArray) he ⟨hit, p'⟩ hlt hne (by simp [hne, hea]) fun x2 h' tk hP2 ho hst hT hsz hk => ?_
    have ex : x2 = u := by
      have : its.toArray[i]? = some u := by simpa using hu
      rw [this] at hP2
      exact (Option.some.inj hP2).symm
    subst ex
    obtain ⟨hit', _⟩ := hst
    refine ⟨_, rfl, wpAny_letOwnedTupleGo_enum (s := { s with heap := h', toks := tk + 1 }) ho fun h'' he' sb => ?_⟩
    have hT2 : h''.get? s.heap.objs.size = some { cls := .type "tuple", data := .seq #[.int i tk, x2] } := (sb.2 _ (Nat.ne_of_gt hel)).trans hT
    have new : ObjOk X.prog X.w (upd H s.heap.objs.size (.tup [.int (i : Nat), x])) h'' s.heap.objs.size (.tup [.int (i : Nat), x]) :=
      ⟨by show 2 ≤ sizeLine; decide, [.int i tk, x2], .cons ⟨_, rfl⟩ (.cons ru .nil), ⟨_, hT2, rfl, _, rfl⟩⟩
    have I1 : Inv X pins σ (upd H s.heap.objs.size (.tup [.int (i : Nat), x])) { s with heap := h'', toks := tk + 1 } :=
      I.turnedNew (t' := tk + 1) (ch := [e, it]) (fun b ob hb q => (sb.2 b (fun z => hb (by simp [z]))).trans (hk b ob (fun z => hb (by simp [z])) (fun z => hb (by simp [z])) q)) hf (Nat.le_refl _) new
    refine ⟨.ref s.heap.objs.size, _, I1, rfl, ⟨_, x, rfl, I.hok.fresh (Nat.le_refl _), rfl, fun ys hy => by rw [I.tuple_inj hy hq]; exact hx⟩, ⟨⟨x2, ?_⟩, hit'.at fun o q => (sb.2 it (Ne.symm hne)).trans q, hne⟩, fun b hb => ?_⟩
    · have e1 : ((i + 1 : Nat) : Int) = (i : Int) + 1 := by omega
      rw [e1]; exact he'
    · have hb' : b < s.heap.objs.size := by
        have e' : b = e ∨ b = it := by simpa using hb
        rcases e' with z | z
        · rw [z]; exact hel
        · rw [z]; exact hil
      rw [upd_ne (Nat.ne_of_lt hb')]
      exact (hf b hb).1
  done := by
    intro X hP hw hK hc i pins s σ H E I hf st hg
    subst hP hw hK
    obtain ⟨⟨old, he⟩, hit, hne⟩ := st
    obtain ⟨xs, hq, hx⟩ := hg
    obtain ⟨its, rv, p, hz⟩ := I.tuple hq
    obtain ⟨f0, f1, f2, f3, f4, f5⟩ := hf it (by simp)
    have hl := rv.length
    have p' : s.heap.IsTuple a its.toArray := p
    have hT : s.TypeIs (.ref e) "enumerate" := ⟨_, he, rfl⟩
    unfold pyNext
    refine wpAny_bind (wpAny_attempt (wpAny_callSpecial?_slot (name := Str.ofString "__next__") hT F.slot_enumerate_next
      (wpAny_call_entry F.slot_enumerate_next hT F.entry_enumerate_next ?_ (F.args_enumerate_next_1 _))))
    show wpAny _ _ (field (.ref e) 2 >>= _) _ _ _
    refine wpAny_bind (wpAny_field he rfl (x := .ref it) rfl ?_)
    refine wpAny_bind (wpAny_nextOf_tuple_end (I.ok.hd hc) hit p' (by simp; omega) fun h' x he' hx' => ?_)
    obtain ⟨o, ho, hc'⟩ := hx'
    refine wpAny_bind (wpAny_isInstance (T := "StopIteration") (b := true) ⟨o, ho, hc'⟩ isSubtype_stop ?_)
    exact wpAny_pure ⟨rfl, I.turned (t' := s.toks) (fun b o hb q => he' b o hb q) f0 f1 f3 f4 f5⟩
  self := fun A i s Q E st h => let ⟨⟨_, he⟩, _⟩ := st; wpAny_pyIter_enum he h
/-- enumerate of a list or of a tuple -/
def iEnum1 (K : PySem.W.Frag) (ta : TA) : TI := fun σ H R => ta σ H fun vs H1 => ∃ a, vs = [.ref a] ∧ (((∃ xs, SqL K H1 a xs) ∧ R (Ite K a) H1) ∨ ((∃ xs, SqT K H1 a xs) ∧ R (IteT K a) H1))
theorem pi_enum1 {X : Cx} {e : Expr} {ta : TA} {p pos tpos : Pos} {elts : List Expr} {kk : Nat} (hg : Gl X "enumerate") (hm : X.mg "enumerate" = none) (ha : PA X [e] ta) (hs : starEach [e] X.env = [(false, eval e X.env)] := by rfl) :
    PI X (.Tuple elts kk tpos) (.Call (.Name "enumerate" p) [e] [] pos) (iEnum1 X.K ta) := by
  refine ⟨fun pins s σ H R I h => ?_⟩
  refine PyProof.Rows.Call_ (ld_blt I hg hm boot_enumerate (PyProof.Rows.callWith_type1 (thn (ha.run pos pins s σ H _ I h) fun us s1 ⟨vs, H1, I1, r1, q1⟩ => ?_) hs rfl))
  obtain ⟨a, ex, q1⟩ := q1
  subst ex
  cases r1 with
  | cons r rr =>
    cases rr
    cases r
    have fresh : ∀ b, b ∈ [s1.heap.objs.size + 1, s1.heap.objs.size] → FpOk X pins H1 b := fun b hb => by
      have e' : b = s1.heap.objs.size + 1 ∨ b = s1.heap.objs.size := by simpa using hb
      have hle : s1.heap.objs.size ≤ b := by
        rcases e' with z | z
        · rw [z]; exact Nat.le_add_right _ _
        · rw [z]; exact Nat.le_refl _
      exact I1.fpOk hle (I1.hok.fresh hle)
    rcases q1 with ⟨⟨xs, hq⟩, q⟩ | ⟨⟨xs, hq⟩, q⟩
    · obtain ⟨its, rv, p', hz⟩ := I1.list hq
      refine call_enumerate_list p'.isList fun h' he hit hsz hk => wpAny_pyIter_enum he ?_
      have I2 : Inv X pins σ H1 { s1 with heap := h' } := I1.kept (t' := s1.toks) hk
      exact ⟨s1.heap.objs.size + 1, [s1.heap.objs.size + 1, s1.heap.objs.size], _, _, H1, rfl, I2, turn_enum a (s1.heap.objs.size + 1) s1.heap.objs.size, ⟨⟨.none, he⟩, hit, Nat.succ_ne_self _⟩, fresh, q⟩
    · obtain ⟨its, rv, p', hz⟩ := I1.tuple hq
      refine call_enumT (show s1.heap.IsTuple a its.toArray from p') fun h' he hit hsz hk => wpAny_pyIter_enum he ?_
      have I2 : Inv X pins σ H1 { s1 with heap := h' } := I1.kept (t' := s1.toks) hk
      exact ⟨s1.heap.objs.size + 1, [s1.heap.objs.size + 1, s1.heap.objs.size], _, _, H1, rfl, I2, turn_enumT a (s1.heap.objs.size + 1) s1.heap.objs.size, ⟨⟨.none, he⟩, hit, Nat.succ_ne_self _⟩, fresh, q⟩
section
variable {σ : L2.St} {H : Hp} {Q : VK} {K : PySem.W.Frag} {F : Hp → Prop} {cs : List (Addr × HO)} {p q : Addr} {x y v : V} {xs ys : List V} {i j : Int} {b : Bool}
variable {nx : L2.St → Hp → Prop} {rt : VK} {g : TG} {tb : TS} {tt : TT} {te : TE} {vs : List Nat}
def IteB : Bool → PySem.W.Frag → Addr → It
  | true, K, p => Ite K p
  | false, K, p => IteT K p
theorem walk_enumB : Walk (IteB b K p) xs.length (fun H => SqB b K H p xs) (YPair (fun i => some (.int (i : Nat))) (fun i => xs[i]?)) := by
  cases b
  · refine ⟨fun i _ hi q => ⟨xs, xs[i], q, by simp [hi]⟩, fun _ q => ⟨xs, q, Nat.le_refl _⟩, fun i H v H' _ q y => ?_⟩
    obtain ⟨T, x, h1, h2, h3, h4⟩ := y
    exact ⟨T, .int (i : Nat), x, h1, h2, h3, rfl, h4 xs q⟩
  · exact walk_enum
theorem x_iEn {R : It → Hp → Prop} {ta : TA} (h : ta σ H fun vs H1 => ∃ a, vs = [.ref a] ∧ (((∃ xs, SqL K H1 a xs) ∧ R (Ite K a) H1) ∨ ((∃ xs, SqT K H1 a xs) ∧ R (IteT K a) H1))) : iEnum1 K ta σ H R := h
/-- for i, x in enumerate(a list or a tuple): the pair is done with at once -/
theorem x_forE {gs : TGs} (hq : SqB b K H p xs) (Pv : Nat → L2.St → Hp → Prop) (h0 : Pv 0 σ H) (hG : ∀ i σ H, Pv i σ H → SqB b K H p xs)
    (hs : ∀ i x σ H T H', xs[i]? = some x → Pv i σ H → H T = none → H' = upd H T (.tup [.int (i : Nat), x]) → gs [.int (i : Nat), x] σ H' fun σ2 H2 => tb ⟨Pv (i + 1), rt, nx, Pv (i + 1)⟩ σ2 H2) (hd : ∀ σ H, Pv xs.length σ H → nx σ H) :
    ∃ a, [V.ref p] = [.ref a] ∧ (((∃ xs, SqL K H a xs) ∧ ForW (Ite K a) σ H nx rt (gTup K 2 gs) tb) ∨ ((∃ xs, SqT K H a xs) ∧ ForW (IteT K a) σ H nx rt (gTup K 2 gs) tb)) := by
  have key : ForW (IteB b K p) σ H nx rt (gTup K 2 gs) tb := forW_it walk_enumB Pv h0 (fun i σ H _ h => hG i σ H h) (fun i x σ H H' hi hp y => by
    obtain ⟨T, x1, x2, rfl, h1, h2, h3, h4⟩ := y
    cases h3
    exact ⟨T, [.int (i : Nat), x2], rfl, sq_t (by rw [h2]; exact upd_same), rfl, hs i x2 σ H T H' h4 hp h1 h2⟩) hd
  cases b
  · exact ⟨p, rfl, .inr ⟨⟨xs, hq⟩, key⟩⟩
  · exact ⟨p, rfl, .inl ⟨⟨xs, hq⟩, key⟩⟩
end
/-! ### all and any of a list of truths -/
section
variable {X : Cx}
def rAll1 (K : PySem.W.Frag) : List V → Hp → VK → Prop := rAll K
def rAny1 (K : PySem.W.Frag) : List V → Hp → VK → Prop := rAny K
theorem x_all {K : PySem.W.Frag} {H : Hp} {Q : VK} {p : Addr} {bs : List Bool} (h : SqL K H p (bs.map V.bl)) (q : Q (.bl (bs.all id)) H) : rAll1 K [.ref p] H Q := ⟨p, bs, rfl, h, q⟩
theorem x_any {K : PySem.W.Frag} {H : Hp} {Q : VK} {p : Addr} {bs : List Bool} (h : SqL K H p (bs.map V.bl)) (q : Q (.bl (bs.any id)) H) : rAny1 K [.ref p] H Q := ⟨p, bs, rfl, h, q⟩
end
end My

namespace My
open PySem PySem.Spec L2 PyProof.Rows NdefX
/-! ### an own error whose __init__ says super().__init__(text); self.f = v -/
structure ErrD where
  cls : Str
  qual : Str
  params : Arguments
  body : List Stmt
  scope : Scope
  fld : Str
def iA (K : PySem.W.Frag) (x : Str) : Addr := He.ma K (He.ga K x) "__init__"
abbrev ErrV : Type := Option (Str × Str × Arguments × FuncBody × Scope × Addr × Addr)
def errW (K : PySem.W.Frag) (x : Str) : ErrV := match K.lookup (iA K x) with
  | some ⟨_, _, .func fd, _⟩ => some (fd.name, fd.qualname, fd.params, fd.body, fd.scope, fd.globals, fd.builtins)
  | _ => none
def ErrD.val (d : ErrD) : ErrV := some ("__init__", d.qual, d.params, .stmts d.body, d.scope, mainGlobals, builtinsNs)
def cellB (K : PySem.W.Frag) (c C : Addr) : Bool := match K.lookup c with
  | some ⟨_, _, .cell (some (.ref D)), _⟩ => decide (D = C)
  | _ => false
def fileB (K : PySem.W.Frag) (c : Addr) (file : Str) : Bool := match K.lookup c with
  | some ⟨_, _, .fields vs, _⟩ => (match (vs[2]? : Option Value) with
    | some (Value.str z _) => decide (z = file)
    | _ => false)
  | _ => false
def fnB (K : PySem.W.Frag) (d : ErrD) (file : Str) : Bool := match K.lookup (iA K d.cls) with
  | some ⟨_, _, .func fd, _⟩ => (match fd.defaults, fd.kwdefaults, fd.annotations, fd.closure, fd.code with
    | .none, .none, none, [(y, cc)], .ref c => decide (y = "__class__") && (cellB K cc (He.ga K d.cls) && (PySem.W.codeIn K (.ref c) d.qual && fileB K c file))
    | _, _, _, _, _ => false)
  | _ => false
def clsB (K : PySem.W.Frag) (C : Addr) : Bool := match K.lookup C with
  | some ⟨.type t, _, .cls cd, sl⟩ => (match cd.mro, sl.toList with
    | .ref C' :: bm, [_, _, _, _, some (.builtin n), _] => decide (t = "type") && (decide (C' = C) && (decide (n = "ValueError.__new__") && (!cd.hasDel && (cd.hasDict && (PySem.HandSPX.refsVE bm && decide (PySem.W.alongIn K "__init__" bm = some (some (.builtin "ValueError.__init__"))))))))
    | _, _ => false)
  | _ => false
def errB (K : PySem.W.Frag) (d : ErrD) (file : Str) : Bool :=
  fnB K d file && (clsB K (He.ga K d.cls) && (decide (PySem.W.findIn K (.ref (He.ga K d.cls)) "__setattr__" = some (some (.builtin "object.__setattr__"))) && (decide (PySem.W.subIn K (.ref (He.ga K d.cls)) (.type "BaseException") = some true) &&
  (decide (PySem.W.typeIn K (.ref (He.ga K d.cls)) = some (.type "type")) && (PySem.W.keepIn K (.ref (He.ga K d.cls)) && (decide (PySem.W.findIn K (.ref (He.ga K d.cls)) d.fld = some none) &&
  (decide (PySem.W.findIn K (.ref (He.ga K d.cls)) "__init__" = some (some (.ref (iA K d.cls)))) && (decide (PySem.W.typeIn K (.ref (iA K d.cls)) = some (.type "function")) && (decide (PySem.W.subIn K (.ref (He.ga K d.cls)) (.type "ValueError") = some true) &&
  decide (PySem.W.mroIn K (He.ga K d.cls) (.ref (He.ga K d.cls)) = some true))))))))))
structure ErrK (K : PySem.W.Frag) (d : ErrD) (file : Str) : Prop where
  fn : ∃ oc od osl doc pm cd ct cc, K.lookup (iA K d.cls) = some ⟨oc, od, .func (PySem.W.fnX "__init__" d.qual d.params d.body d.scope [("__class__", cc)] .none .none doc pm none (.ref cd) ct), osl⟩ ∧
    PySem.W.codeIn K (.ref cd) d.qual = true ∧ (∃ a b csl, K.lookup cc = some ⟨a, b, .cell (some (.ref (He.ga K d.cls))), csl⟩) ∧ ∃ a b vs tf csl, K.lookup cd = some ⟨a, b, .fields vs, csl⟩ ∧ vs[2]? = some (.str file tf)
  ox : OexC K (He.ga K d.cls)
  sup : ∃ cdd bm, PySem.W.clsIn K (He.ga K d.cls) = some cdd ∧ cdd.mro = .ref (He.ga K d.cls) :: bm ∧ PySem.W.alongIn K "__init__" bm = some (some (.builtin "ValueError.__init__"))
  noat : PySem.W.findIn K (.ref (He.ga K d.cls)) d.fld = some none
  init : PySem.W.findIn K (.ref (He.ga K d.cls)) "__init__" = some (some (.ref (iA K d.cls)))
  ty : PySem.W.typeIn K (.ref (iA K d.cls)) = some (.type "function")
  ve : PySem.W.subIn K (.ref (He.ga K d.cls)) (.type "ValueError") = some true
  own : PySem.W.mroIn K (He.ga K d.cls) (.ref (He.ga K d.cls)) = some true
theorem cellB_ok {K : PySem.W.Frag} {c C : Addr} (h : cellB K c C = true) : ∃ a b csl, K.lookup c = some ⟨a, b, .cell (some (.ref C)), csl⟩ := by
  unfold cellB at h
  split at h
  · rename_i a b D csl q
    exact ⟨a, b, csl, by rw [q, of_decide_eq_true h]⟩
  · cases h
theorem fileB_ok {K : PySem.W.Frag} {c : Addr} {file : Str} (h : fileB K c file = true) : ∃ a b vs tf csl, K.lookup c = some ⟨a, b, .fields vs, csl⟩ ∧ vs[2]? = some (.str file tf) := by
  unfold fileB at h
  split at h
  · rename_i a b vs csl q
    split at h
    · rename_i z tf q2
      have e := of_decide_eq_true h
      exact ⟨a, b, vs, tf, csl, q, by rw [q2, e]⟩
    · cases h
  · cases h
theorem errK_of {K : PySem.W.Frag} {d : ErrD} {file : Str} (e : errW K d.cls = d.val) (h : errB K d file = true) : ErrK K d file := by
  unfold errB at h
  obtain ⟨h1, h⟩ := He.ba h
  obtain ⟨h2, h⟩ := He.ba h
  obtain ⟨h3, h⟩ := He.ba h
  obtain ⟨h4, h⟩ := He.ba h
  obtain ⟨h5, h⟩ := He.ba h
  obtain ⟨h6, h⟩ := He.ba h
  obtain ⟨h7, h⟩ := He.ba h
  obtain ⟨h8, h⟩ := He.ba h
  obtain ⟨h9, h⟩ := He.ba h
  obtain ⟨h10, h11⟩ := He.ba h
  have cl : (∃ nm q N bs bm sn sub ab col dd k0 k1 k2 k3 k5, K.lookup (He.ga K d.cls) = some (excClassObj nm q (He.ga K d.cls) N bs bm true sn sub ab col dd k0 k1 k2 k3 k5 "ValueError.__new__") ∧ PySem.HandSPX.refsVE bm = true) ∧
      ∃ cdd bm, PySem.W.clsIn K (He.ga K d.cls) = some cdd ∧ cdd.mro = .ref (He.ga K d.cls) :: bm ∧ PySem.W.alongIn K "__init__" bm = some (some (.builtin "ValueError.__init__")) := by
    generalize He.ga K d.cls = C at h2 ⊢
    unfold clsB at h2
    split at h2
    · rename_i t dd cd sl q
      split at h2
      · rename_i C' bm k0 k1 k2 k3 n k5 hm hs
        obtain ⟨g1, h2⟩ := He.ba h2
        obtain ⟨g2, h2⟩ := He.ba h2
        obtain ⟨g3, h2⟩ := He.ba h2
        obtain ⟨g4, h2⟩ := He.ba h2
        obtain ⟨g5, h2⟩ := He.ba h2
        obtain ⟨g6, g7⟩ := He.ba h2
        obtain rfl : t = "type" := of_decide_eq_true g1
        obtain rfl : C' = C := of_decide_eq_true g2
        obtain rfl : n = "ValueError.__new__" := of_decide_eq_true g3
        obtain ⟨nm, bs, mro, ns, qn, hd, sn, sb, ab, col, del⟩ := cd
        dsimp only at hm g4 g5
        subst hm
        obtain rfl : del = false := by simpa using g4
        subst g5
        obtain rfl : sl = #[k0, k1, k2, k3, some (.builtin "ValueError.__new__"), k5] := by
          apply Array.ext'
          rw [hs]
        refine ⟨⟨nm, qn, ns, bs, bm, sn, sb, ab, col, dd, k0, k1, k2, k3, k5, q, g6⟩, ⟨nm, bs, .ref C' :: bm, ns, qn, true, sn, sb, ab, col, false⟩, bm, ?_, rfl, of_decide_eq_true g7⟩
        unfold PySem.W.clsIn
        rw [q]
      · cases h2
    · cases h2
  refine ⟨?_, ⟨cl.1, of_decide_eq_true h3, of_decide_eq_true h4, of_decide_eq_true h5, h6⟩, cl.2, of_decide_eq_true h7, of_decide_eq_true h8, of_decide_eq_true h9, of_decide_eq_true h10, of_decide_eq_true h11⟩
  unfold fnB at h1
  unfold errW at e
  split at h1
  · rename_i oc od fd osl q
    rw [q] at e
    obtain ⟨n1, n2, n3, n4, n5, n6, n7, n8, n9, n10, n11, n12, n13, n14, n15⟩ := fd
    have e2 : (some (n1, n2, n3, n4, n5, n6, n15) : ErrV) = some (("__init__" : Str), d.qual, d.params, .stmts d.body, d.scope, mainGlobals, builtinsNs) := e
    simp only [Option.some.injEq, Prod.mk.injEq] at e2
    obtain ⟨g1, g2, g3, g4, g5, g6, g7⟩ := e2
    subst g1 g2 g3 g4 g5 g6 g7
    split at h1
    · rename_i y cc c w1 w2 w3 w4 w5
      dsimp only at w1 w2 w3 w4 w5
      subst w1 w2 w3 w4 w5
      obtain ⟨f1, h1⟩ := He.ba h1
      obtain ⟨f2, h1⟩ := He.ba h1
      obtain ⟨f3, f4⟩ := He.ba h1
      obtain rfl : y = "__class__" := of_decide_eq_true f1
      exact ⟨oc, od, osl, _, _, _, _, _, q, f3, cellB_ok f2, fileB_ok f4⟩
    · cases h1
  · cases h1
end My
namespace My
open PySem PySem.Spec L2 PyProof.Rows NdefX
section
variable {X : Cx} {pins : List (Addr × Obj)} {σ : L2.St} {H : Hp} {s : Shared} {a C u : Addr} {E : Value → Shared → Prop} {A : Around}
/-- the bound __init__ called -/
theorem mw_ok {us : List Value} {Q : Value → Shared → Prop} (T : OexC X.K C) (I : Inv X pins σ H s) (e : H a = some (exo a C none)) (hu : s.heap.get? u = some (PySem.W.kxs_mw "ValueError.__init__" a)) (hl : us.length ≤ sizeLine) (h : ∀ s', Inv X pins σ H s' → Q .none s') :
    wpAny (model X.prog X.w) A (call (.ref u) us) Q E s := by
  obtain ⟨nm, q, N, bs, bm, sn, sub, ab, col, dd, k0, k1, k2, k3, k5, hC, hbm⟩ := T.cls
  obtain ⟨t1, ho⟩ := exo_at I.hok e
  have hC' := I.kIn _ _ hC
  obtain ⟨hp, g, d, t, os⟩ := s
  refine wpAny_call (codeAny_of_tree ?_)
  show wpAny _ A.in1 (callAny (.ref u) ⟨us, []⟩) _ _ _
  simp only [callAny]
  refine wpAny_bind (wpAny_load hu ?_)
  simp only [PySem.W.kxs_mw, show (Value.type "method-wrapper" == Value.type "method" || Value.type "method-wrapper" == Value.type "builtin_function_or_method" || Value.type "method-wrapper" == Value.type "method-wrapper") = true by decide, if_true]
  refine PySem.W.KFB.if_so (by decide) ?_
  refine wpAny_bind (PySem.W.check_bound_init F.excBase_ValueError.toExcCallFacts hC' ho rfl ?_)
  refine wpAny_bind (wpAny_pure (wpAny_pure ?_))
  refine ⟨plainId_quiet F.excBase_ValueError.init.plain _, codeAny_builtin F.excBase_ValueError.initEntry ?_⟩
  refine PySem.W.exc_init_tree (cls := .ref C) (t0 := t1) (dv := none) (c2 := .none) (c3 := .none) (b4 := .bool false) ho hl fun h' k hx _ => ?_
  have J := I.write (t' := t) (x := a) (e := a) (o := exo a C none) (by rw [e]; exact True.intro) (.inl rfl) k ⟨_, hx⟩ (exo_ok hx)
  have eu : upd H a (exo a C none) = H := by
    funext b
    by_cases hb : b = a
    · rw [hb, upd_same, e]
    · rw [upd_ne hb]
  rw [eu] at J
  exact h _ J
abbrev supCall (p0 p1 p2 p3 p6 : Pos) (text : Str) (kk : Nat) : Expr := .Call (.Attribute (.Call (.Name "super" p0) [] [] p1) "__init__" p2) [.Constant (.str text) kk p6] [] p3
/-- the call is an ordinary one (its places in the text say so) -/
def SupEv (p0 p1 p2 p3 p6 : Pos) (text : Str) (kk : Nat) (pl : Sem Bool) (env : Env) : Prop := eval (supCall p0 p1 p2 p3 p6 text kk) env = (do
      let ov ← attributeBase (.Call (.Name "super" p0) [] [] p1) "__init__" env (eval (.Call (.Name "super" p0) [] [] p1) env)
      standAt p2.atName
      let (f, first) ← holding [ov] (getMethod ov "__init__" pl)
      callWith p3 f first (backTo p3 (starEach [.Constant (.str text) kk p6] env)) [])
theorem super_ok {d : ErrD} {file text qual : Str} {scope : Scope} {L cd cc : Addr} {oc od osl} {fd : FuncData} {ar : Arg} {body : List Stmt} {cvs : Array Value} {tf : Tok} {c1 c2 c3 e1 e2 e3} {p0 p1 p2 p3 p4 p6 : Pos} {kk : Nat} {pl : Sem Bool}
    (T : ErrK X.K d file) (hop : PySem.W.nsIn X.K cStatics "thirdparty.any" = some none) (hX : X.env = PySem.W.envX qual scope L (iA X.K d.cls) (.ref cd) [("__class__", cc)])
    (hfn : X.K.lookup (iA X.K d.cls) = some ⟨oc, od, .func fd, osl⟩) (hp : (fd.params.posonlyargs ++ fd.params.args).head? = some ar) (har : ar.arg = "self")
    (hcell : X.K.lookup cc = some ⟨c1, c2, .cell (some (.ref (He.ga X.K d.cls))), c3⟩) (hcd : X.K.lookup cd = some ⟨e1, e2, .fields cvs, e3⟩) (hvs : cvs[2]? = some (.str file tf))
    (hfile : (X.prog.main.file == file) = true) (htop : (X.prog.main.scope.names.lookup ("super" : Str)).isSome = false) (hsup : X.mg "super" = none)
    (hks : scope.names.lookup ("super" : Str) = some .globalImplicit) (hkc : scope.names.lookup ("__class__" : Str) = some .free) (hka : scope.names.lookup ("self" : Str) = some .local)
    (hev : SupEv p0 p1 p2 p3 p6 text kk pl X.env) (I : Inv X [] σ H s) (ea : H a = some (exo a (He.ga X.K d.cls) none)) (hN : X.N[0]? = some ("self" : Str)) (hs : σ[0]? = some (some (.ref a))) :
    PySem.wpAt (model X.prog X.w) X.A (.func body X.env) (exec (.Expr (supCall p0 p1 p2 p3 p6 text kk) p4) X.env) (fun fl s' => fl = .next ∧ Inv X [] σ H s') X.xe s := by
  have hk : X.env.scope.kind = .function := I.ok.kind
  have hgl : X.env.globals = mainGlobals := I.ok.glob
  have hbl : X.env.builtins = builtinsNs := I.ok.blt
  obtain ⟨cdd, bm, hcl, hmro, hal⟩ := T.sup
  obtain ⟨oD, hD1, hD2⟩ : ∃ oD, s.heap.get? (He.ga X.K d.cls) = some oD ∧ oD.data = .cls cdd := by
    unfold PySem.W.clsIn at hcl
    split at hcl
    · rename_i c dd cd' sl ho
      cases hcl
      exact ⟨_, I.kIn _ _ ho, rfl⟩
    · cases hcl
  obtain ⟨t1, ho⟩ := exo_at I.hok ea
  have hne : a ≠ He.ga X.K d.cls := by
    intro z
    rw [← z, ho] at hD1
    cases hD1
    cases hD2
  obtain ⟨m, hn, hl⟩ := I.loc
  have hka0 : X.env.kindOf "self" = some .local := by rw [hX]; exact hka
  obtain ⟨u, ru, l⟩ := hl 0 "self" (.ref a) hN hs (.inl hka0)
  rw [hX] at hk hn l hev
  generalize hEnv : PySem.W.envX qual scope L (iA X.K d.cls) (.ref cd) [("__class__", cc)] = env0 at *
  have hks' : env0.kindOf "super" = some .globalImplicit := by rw [← hEnv]; exact hks
  have hkc' : env0.kindOf "__class__" = some .free := by rw [← hEnv]; exact hkc
  have hka' : env0.kindOf "self" = some .local := by rw [← hEnv]; exact hka
  rw [hX] at hgl hbl
  rw [hX]
  subst hEnv
  obtain rfl : u = Value.ref a := ru
  have hm : m "self" = some (Value.ref a) := by
    rcases l with ⟨_, hm⟩ | ⟨hk2, _⟩
    · exact hm
    · rw [hka'] at hk2
      rcases hk2 with z | z <;> cases z
  obtain ⟨mb, hb1, hb2⟩ := I.mod.blt
  refine ks_wpAt_Expr_any ?_ (by unfold interactive; rw [hk]; rfl) rfl
  refine ks_wpAt_MethodCall (pl := pl) ?_ hev
  refine ks_wpAt_super_base (fd := fd) (ar := ar) hks' hkc' rfl rfl (I.kIn _ _ hfn) rfl hp rfl (I.kIn _ _ hcd) rfl hvs hfile htop ?_
  refine PySem.W.ks_loadName_global hk hks' (Calls.loadGlobal_builtin (by rw [hgl]; exact I.mod.glob.keeps I.bk) hsup (by rw [hbl]; exact hb1.keeps I.bk) ((hb2 _ (by decide)).trans (by decide +kernel : bootBuiltins "super" = some (.type "super"))) ⟨rfl, ?_⟩)
  refine wpAny_loadName_free hk hkc' rfl ⟨_, I.kIn _ _ hcell, rfl⟩ ?_
  rw [har]
  refine wpAny_loadName_local hk hka' hn hm ?_
  refine ks_wpAny_isType_cls hD1 hD2 ⟨rfl, ?_⟩
  obtain ⟨hh, g, dr, t, os⟩ := s
  refine ks_wpAny_call_super hD1 hD2 ho rfl (by intro c e; cases e) (PySem.W.looks_mroIn I.kIn T.own) (fun h' e1 k => ?_)
  have I1 : Inv X [] σ H ⟨h', g, dr, t, os⟩ := I.kept (t' := t) k
  have hI : PySem.W.Looks (model X.prog X.w) h' (isInstance (.ref a) (.type "ValueError")) true :=
    (PySem.W.InstAt.type (⟨k _ _ ho, rfl, rfl, trivial⟩ : PySem.W.InstAt h' a { cls := .ref (He.ga X.K d.cls), dict := none, data := .fields #[.ref t1, .none, .none, .none, .bool false, .none] } (He.ga X.K d.cls) none)).andThen (PySem.W.looks_subIn I1.kIn T.ve)
  refine PySem.W.kxs_getMethod PySem.W.kxs_ValueError e1 (PySem.W.looks_opaque I1.kIn hop) (l₀ := cdd.mro) ((PySem.W.looks_clsIn I1.kIn hcl).andThen .now) (by rw [hmro]; exact ESX.drop_own _ _) I1.kIn hal hI hne (by decide) ?_
  have kk2 : ∀ b o, h'.get? b = some o → (h'.push (PySem.W.kxs_mw "ValueError.__init__" a)).get? b = some o := fun b o e => Heap.get?_push_of_some _ e
  have I2 : Inv X [] σ H ⟨h'.push (PySem.W.kxs_mw "ValueError.__init__" a), g, dr, t + 1, os⟩ := I1.kept (t' := t + 1) kk2
  have hu : (h'.push (PySem.W.kxs_mw "ValueError.__init__" a)).get? h'.objs.size = some (PySem.W.kxs_mw "ValueError.__init__" a) := Heap.get?_push_size _ rfl
  refine PySem.W.kxs_callWith (i := "ValueError.__init__") (x := a) rfl ?_
  refine Calls.evalArgs_plain ?_
  show wpAny _ _ (spliced [(false, eval (.Constant (.str text) kk p6) _)]) _ _ _
  refine Calls.spliced_cons (Calls.Constant_str ?_)
  refine Calls.spliced_nil ⟨hu, ?_⟩
  have I3 : Inv X [] σ H ⟨h'.push (PySem.W.kxs_mw "ValueError.__init__" a), g, dr, t + 1 + 1, os⟩ := I2.tok (t + 1 + 1)
  exact mw_ok T.ox I3 ea hu (by show 1 ≤ sizeLine; decide) fun s' J => ⟨rfl, J⟩
end
/-- the promise of such an __init__: the field is set -/
def sp_err (d : ErrD) (K : PySem.W.Frag) : Sp := fun vs H Q _ => ∃ (a : Addr) (v : V), vs = [.ref a, v] ∧ H a = some (exo a (He.ga K d.cls) none) ∧
  ∀ dx, H dx = none → dx ≠ a → Q .non (upd (upd H dx (exd dx [(d.fld, v)])) a (exo a (He.ga K d.cls) (some dx)))
theorem fn_err {P : Program} {w : World} {K : PySem.W.Frag} {mg : Str → Option Value} {base : Heap} {d : ErrD} {file text p : Str} {ar : Arg} {p0 p1 p2 p3 p4 p6 q0 q1 q2 q3 : Pos} {kk : Nat} {pl : Sem Bool}
    (T : ErrK K d file) (hop : PySem.W.nsIn K cStatics "thirdparty.any" = some none) (hfile : (P.main.file == file) = true) (htop : (P.main.scope.names.lookup ("super" : Str)).isSome = false) (hsup : mg "super" = none)
    (hpar : (d.params.posonlyargs ++ d.params.args).head? = some ar) (har : ar.arg = "self") (hbody : d.body = [.Expr (supCall p0 p1 p2 p3 p6 text kk) p4, .Assign [.Attribute (.Name "self" q0) d.fld q1] (.Name p q2) q3])
    (hev : ∀ L f cd cl, SupEv p0 p1 p2 p3 p6 text kk pl (PySem.W.envX d.qual d.scope L f cd cl))
    (hS : nscB ["self", p, "__class__"] ["self", p] ["__class__"] d.scope = true) (hks : d.scope.names.lookup ("super" : Str) = some .globalImplicit)
    (hpp : (p == ("__debug__" : Str)) = false ∧ (p == ("__classdict__" : Str)) = false) :
    ∃ fd, FnOk P w K mg base (L2.CX P w) 1 (iA K d.cls) fd ["self", p] (sp_err d K) ∧ ∃ doc pm cd ct cc, fd = PySem.W.fnX "__init__" d.qual d.params d.body d.scope [("__class__", cc)] .none .none doc pm none (.ref cd) ct := by
  obtain ⟨oc, od, osl, doc, pm, cd, ct, cc, hfn, hcode, ⟨c1, c2, c3, hcell⟩, e1, e2, cvs, tf, e3, hcd, hvs⟩ := T.fn
  have S := nscope_by hS
  refine ⟨_, ⟨fun vs H Q E h => ?_, fun A outer s H args us vs Q E hr e0 hb r hsp => ?_⟩, doc, pm, cd, ct, cc, rfl⟩
  · obtain ⟨_, _, e, _⟩ := h
    rw [e]
    rfl
  · obtain ⟨a, v, rfl, ea, q⟩ := hsp
    have hl : [V.ref a, v].length = (["self", p] : List Str).length := rfl
    have KX : K.In s.heap := e0.mod.kin.keeps fun b o e => (e0.bs b o e).1
    have lim : s.heap.NoLimit := e0.mod.nolimit.keeps fun b o e => (e0.bs b o e).1
    let F : NF := ⟨"__init__", d.qual, d.params, d.body, d.scope, [("__class__", cc)], cd⟩
    have C : CellsAt F.cl ["__class__"] [none] s.heap H := by
      have hH : H cc = none := (e0.bs cc _ (e0.mod.kin _ _ hcell)).2
      refine ⟨rfl, fun y c h => ?_, fun x y c h1 h2 => ?_, fun i y h => ?_⟩
      · have h : (match y == ("__class__" : Str) with | true => some cc | false => none) = some c := h
        split at h
        · cases h
          exact ⟨hH, _, _, KX _ _ hcell, rfl⟩
        · cases h
      · have h1 : (match x == ("__class__" : Str) with | true => some cc | false => none) = some c := h1
        have h2 : (match y == ("__class__" : Str) with | true => some cc | false => none) = some c := h2
        split at h1
        · rename_i k1
          split at h2
          · rename_i k2
            rw [beq_iff_eq.mp k1, beq_iff_eq.mp k2]
          · cases h2
        · cases h1
      · cases i with
        | zero =>
          have e : "__class__" = y := by simpa using h
          subst e
          exact ⟨cc, rfl, fun v h => by cases h⟩
        | succ i => simp at h
    refine ks_codeAny_call_defAt (body := d.body) hr.depth (KX _ _ hfn) rfl lim (PySem.W.codeRec_of KX hcode) rfl hb S.nocell (fun ⟨n, _⟩ hy => S.par n (List.of_mem_zip hy).1) (fun h₁ hns kp => ?_) S.co S.gen S.kind
    have I : Inv (ncx (L2.CX P w) P w K mg base ["self", p, "__class__"] F (iA K d.cls) A outer s H E) [] (startF ["self", p, "__class__"] [.ref a, v] [none]) H { s with heap := h₁, toks := s.toks + ((["self", p] : List Str).zip us).length } :=
      inv_startN S hr.hd e0 hl r C hns kp
    rw [hbody]
    refine ks_wpAt_execs_cons (ks_wpAt_mono (super_ok (X := ncx (L2.CX P w) P w K mg base ["self", p, "__class__"] F (iA K d.cls) A outer s H E) T hop rfl hfn hpar har hcell hcd hvs hfile htop hsup hks (S.frk _ (List.mem_singleton.mpr rfl)) (S.par _ (by simp)) (hev _ _ _ _) I ea rfl rfl) (fun fl s' h => ?_) fun _ _ h => h)
    obtain ⟨rfl, J⟩ := h
    refine wpAt_of_wpAny ?_
    have ps : PSs (ncx (L2.CX P w) P w K mg base ["self", p, "__class__"] F (iA K d.cls) A outer s H E) [.Assign [.Attribute (.Name "self" q0) d.fld q1] (.Name p q2) q3] (tOst K d.fld (tVar 0) (tVar 1)) :=
      pss_one (ps_ost (pe_var (i := 0) rfl (.inl (S.par _ (by simp)))) (pe_var (i := 1) rfl (.inl (S.par _ (by simp))) hpp.1 hpp.2))
    refine wpAny_mono (ps.run [] _ _ _ ⟨fun _ H' => Q .non H', Q, fun _ _ => False, fun _ _ => False⟩ J ⟨v, rfl, .ref a, rfl, a, _, rfl, T.ox, T.noat, .inl ⟨ea, q⟩⟩) (fun fl s' hs => ?_) fun e s' hs => hs
    have fin : ∀ {σ' : L2.St} {H' : Hp} {v' : V} {u : Value}, Inv (ncx (L2.CX P w) P w K mg base ["self", p, "__class__"] F (iA K d.cls) A outer s H E) [] σ' H' s' → L2.RelV v' u → Q v' H' → CE outer P w H s Q u s' :=
      fun {σ' H' v' u} J rv q => ⟨v', H', J.os, J.bare, J.base, J.hok, rv, q⟩
    cases fl with
    | ret u =>
      obtain ⟨v', σ', H', J, rv, q⟩ := hs
      exact fin J rv q
    | next =>
      obtain ⟨σ', H', J, q⟩ := hs
      exact fin (v' := V.non) (u := Value.none) J rfl q
    | brk =>
      obtain ⟨_, _, _, q⟩ := hs
      exact False.elim q
    | cont =>
      obtain ⟨_, _, _, q⟩ := hs
      exact False.elim q
end My

namespace My
open PySem PySem.Spec L2 PyProof.Rows
/-! ### own classes, as callers see them -/
structure MethOk (P : Program) (w : World) (K : PySem.W.Frag) (mg : Str → Option Value) (base : Heap) (C : Addr) (m : Str) (k : Nat) (ps : List Str) (ds : List V) (sp : Sp) : Prop where
  ex : ∃ (fd : FuncData) (dsv : List Value), Cls K C ∧ Meth K C m (He.ma K C m) ∧ FnOk P w K mg base (L2.CX P w) k (He.ma K C m) fd ps sp ∧ Binds K fd ps dsv ∧ Vals ds dsv
structure MakeOk (P : Program) (w : World) (K : PySem.W.Frag) (mg : Str → Option Value) (base : Heap) (x : Str) (k : Nat) (ps : List Str) (ds : List V) (sp : Sp) : Prop where
  ex : ∃ (fd : FuncData) (dsv : List Value), Mk K (He.ga K x) (He.ma K (He.ga K x) "__init__") ∧ mg x = some (.ref (He.ga K x)) ∧ FnOk P w K mg base (L2.CX P w) k (He.ma K (He.ga K x) "__init__") fd ps sp ∧ Binds K fd ps dsv ∧ Vals ds dsv
structure MakeKw (P : Program) (w : World) (K : PySem.W.Frag) (mg : Str → Option Value) (base : Heap) (x : Str) (k : Nat) (ps : List Str) (n : Nat) (ks : List Str) (gV : List V → List V → List V) (sp : Sp) : Prop where
  ex : ∃ (fd : FuncData) (g : List Value → List Value → List Value), Mk K (He.ga K x) (He.ma K (He.ga K x) "__init__") ∧ mg x = some (.ref (He.ga K x)) ∧ FnOk P w K mg base (L2.CX P w) k (He.ma K (He.ga K x) "__init__") fd ps sp ∧ KBn K fd ps (n + 1) ks g gV
section
variable {X : Cx} {k n : Nat} {sp : Sp} {E : XK} {C : Addr} {x m : Str} {p pos apos : Pos} {e o : Expr} {es : List Expr} {kws : List Keyword} {t tk : TA} {ta : TE} {ps ks : List Str} {ds : List V} {gV : List V → List V → List V} {pl : Sem Bool}
theorem pe_methM (D : MethOk X.prog X.w X.K X.mg X.base C m k ps ds sp) (hr : Room k X.A) (hx : Passes (L2.CX X.prog X.w) X E) (he : PE X o ta) (ha : PA X (e :: es) t)
    (hst : starEach (e :: es) X.env = (false, eval e X.env) :: starEach es X.env := by rfl) (hpl : (backTo pos (starEach es X.env)).any (·.1) = false := by rfl)
    (ht : eval (.Call (.Attribute o m apos) (e :: es) [] pos) X.env = (do
      let ov ← eval o X.env
      standAt apos.atName
      let (g, first) ← holding [ov] (getMethod ov m pl)
      callWith pos g first (backTo pos (starEach (e :: es) X.env)) (backToKw pos (keywordEach [] X.env))) := by rfl) :
    PE X (.Call (.Attribute o m apos) (e :: es) [] pos) (tMeth C m sp ds E ta t) := by
  obtain ⟨fd, dsv, c, hm, F, hb, hd⟩ := D.ex
  exact pe_meth he c hm F hr hb hd hx ha hst hpl ht
theorem pe_methM0 (D : MethOk X.prog X.w X.K X.mg X.base C m k ps ds sp) (hr : Room k X.A) (hx : Passes (L2.CX X.prog X.w) X E) (he : PE X o ta)
    (ht : eval (.Call (.Attribute o m apos) [] [] pos) X.env = (do
      let ov ← eval o X.env
      standAt apos.atName
      let (g, first) ← holding [ov] (getMethod ov m pl)
      callWith pos g first (backTo pos (starEach [] X.env)) (backToKw pos (keywordEach [] X.env))) := by rfl) :
    PE X (.Call (.Attribute o m apos) [] [] pos) (tMeth C m sp ds E ta tNil) := by
  obtain ⟨fd, dsv, c, hm, F, hb, hd⟩ := D.ex
  exact pe_meth0 he c hm F hr hb hd hx ht
theorem pe_makeM (D : MakeOk X.prog X.w X.K X.mg X.base x k ps ds sp) (hr : Room (k + 1) X.A) (hg : Gl X x) (hx : Passes (L2.CX X.prog X.w) X E) (ha : PA X (e :: es) t)
    (hdb : (x == ("__debug__" : Str)) = false := by decide) (he : starEach (e :: es) X.env = (false, eval e X.env) :: starEach es X.env := by rfl) (hpl : (backTo pos (starEach es X.env)).any (·.1) = false := by rfl) :
    PE X (.Call (.Name x p) (e :: es) [] pos) (tMake (He.ga X.K x) sp ds E t) := by
  obtain ⟨fd, dsv, M, hm, F, hb, hd⟩ := D.ex
  exact pe_make M F hr hg hm hb hd hx ha hdb he hpl
theorem pe_makeMK (D : MakeKw X.prog X.w X.K X.mg X.base x k ps n ks gV sp) (hr : Room (k + 1) X.A) (hg : Gl X x) (hx : Passes (L2.CX X.prog X.w) X E) (ha : PA X (e :: es) t) (hkw : PK X kws tk)
    (hall : (backToKw pos (keywordEach kws X.env)).all (·.1.isSome) = true := by rfl) (hks : (backToKw pos (keywordEach kws X.env)).filterMap (·.1) = ks := by rfl) (hdb : (x == ("__debug__" : Str)) = false := by decide)
    (he : starEach (e :: es) X.env = (false, eval e X.env) :: starEach es X.env := by rfl) (hpl : ((backTo pos (starEach (e :: es) X.env)).any (·.1) || (backToKw pos (keywordEach kws X.env)).any (·.1.isNone)) = false := by rfl) :
    PE X (.Call (.Name x p) (e :: es) kws pos) (tMakeK (He.ga X.K x) n ks.length sp gV E t tk) := by
  obtain ⟨fd, g, M, hm, F, hb⟩ := D.ex
  exact pe_makeK M F hr hg hm hb hx ha hkw hall hks hdb he hpl
/-- a def called within a try's body -/
theorem pe_defT {W : WX} (D : DefOk X.prog X.w X.K X.mg X.base x k ps ds sp) (hr : Room k X.A) (hg : Gl X x) (tkw : Takes X W) (ha : PA X (e :: es) t)
    (hdb : (x == ("__debug__" : Str)) = false := by decide) (he : starEach (e :: es) X.env = (false, eval e X.env) :: starEach es X.env := by rfl) (hpl : (backTo pos (starEach es X.env)).any (·.1) = false := by rfl) :
    PE X (.Call (.Name x p) (e :: es) [] pos) (tCallSD sp ds (WE W) t) := by
  obtain ⟨f, fd, dsv, F, hm, hk, hb, hv⟩ := D.ex
  exact pe_callSD F hr hg hm hk hb hv (fun σ => passAt tkw σ) ha hdb he hpl
end
/-! ### steps -/
section
variable {σ : L2.St} {H : Hp} {Q : VK} {K : PySem.W.Frag} {F : Hp → Prop} {cs : List (Addr × HO)} {p q a C dx : Addr} {x y v : V} {xs ys : List V} {i j : Int} {f m : Str} {fs : List (Str × V)} {ta : TE} {t tk : TA} {sp : Sp} {E : XK} {ds : List V}
/-- what a class says of a field's name -/
def FldK (K : PySem.W.Frag) (C : Addr) (f : Str) : Prop := Cls K C ∧ NoAttr K C f
def FldW (K : PySem.W.Frag) (f : Str) (x : V) (H1 : Hp) (Q : VK) : Prop := ∃ a C dx fs v, x = .ref a ∧ H1 a = some (.ins C dx fs) ∧ Cls K C ∧ NoAttr K C f ∧ fs.lookup f = some v ∧ Q v H1
theorem x_fld (h : ta σ H fun x H1 => FldW K f x H1 Q) : tFld K ta f σ H Q := h
theorem x_f (k : FldK K C f) (h : H a = some (.ins C dx fs)) (l : fs.lookup f = some v) (q : Q v H) : FldW K f (.ref a) H Q := ⟨a, C, dx, fs, v, rfl, h, k.1, k.2, l, q⟩
def ConW (K : PySem.W.Frag) (f : Str) (x : V) (H1 : Hp) (Q : VK) : Prop := ∃ a C dx fs v u, x = .ref a ∧ H1 a = some (.ins C dx fs) ∧ Cls K C ∧ Con K C f v u ∧ fs.lookup f = none ∧ Q v H1
theorem x_con (h : ta σ H fun x H1 => ConW K f x H1 Q) : tCon K ta f σ H Q := h
theorem x_c0 (k : Cls K C) (z : ∃ u, Con K C f v u) (h : H a = some (.ins C dx fs)) (l : fs.lookup f = none) (q : Q v H) : ConW K f (.ref a) H Q := by
  obtain ⟨u, z⟩ := z
  exact ⟨a, C, dx, fs, v, u, rfl, h, k, z, l, q⟩
def MethW (C : Addr) (m : Str) (x : V) (H1 : Hp) (R : Prop) : Prop := ∃ a dx fs, x = .ref a ∧ H1 a = some (.ins C dx fs) ∧ fs.lookup m = none ∧ R
theorem x_meth (h : ta σ H fun x H1 => MethW C m x H1 (t σ H1 fun vs H2 => sp (x :: (vs ++ ds)) H2 Q E)) : tMeth C m sp ds E ta t σ H Q := h
theorem x_m {R : Prop} (h : H a = some (.ins C dx fs)) (l : fs.lookup m = none) (q : R) : MethW C m (.ref a) H R := ⟨a, dx, fs, rfl, h, l, q⟩
def MakeW (C : Addr) (sp : Sp) (E : XK) (vs : List V → List V) (H2 : Hp) (Q : VK) : Prop := ∀ x dx, H2 x = none → H2 dx = none → dx ≠ x → sp (vs [.ref x]) (upd (upd H2 dx (.own x)) x (.ins C dx [])) (fun v H3 => v = .non ∧ Q (.ref x) H3) E
theorem x_make (h : t σ H fun vs H1 => MakeW C sp E (fun s => s ++ (vs ++ ds)) H1 Q) : tMake C sp ds E t σ H Q := h
theorem x_makeK {n m : Nat} {gV : List V → List V → List V} (h : t σ H fun vs H1 => tk σ H1 fun zs H2 => vs.length = n ∧ zs.length = m ∧ MakeW C sp E (fun s => gV (s ++ vs) zs) H2 Q) : tMakeK C n m sp gV E t tk σ H Q := h
/-- a new instance and its dict, then its __init__ -/
theorem x_new2 {g : List V → List V} (s : S F cs H) (k : ∀ x dx H', S F ((x, .ins C dx []) :: (dx, .own x) :: cs) H' → sp (g [.ref x]) H' (fun v H3 => v = .non ∧ Q (.ref x) H3) E) : MakeW C sp E g H Q := by
  intro x dx h1 h2 h3
  refine k x dx _ ((s.alloc h2).alloc ?_)
  rw [upd_ne (Ne.symm h3)]
  exact h1
def SFldW (K : PySem.W.Frag) (f : Str) (y x : V) (H2 : Hp) (R : Hp → Prop) : Prop := ∃ a C dx fs, x = .ref a ∧ H2 a = some (.ins C dx fs) ∧ Cls K C ∧ NoAttr K C f ∧ fs.length < 1000 ∧ R (upd H2 a (.ins C dx (putF f y fs)))
theorem x_sfld {tv : TE} {D : Ends} (h : tv σ H fun y H1 => ta σ H1 fun x H2 => SFldW K f y x H2 fun H3 => D.nx σ H3) : sFld K ta tv f D σ H := h
theorem x_sf {R : Hp → Prop} (s : S F cs H) (k : FldK K C f) {n : Nat} (h : cs[n]? = some (a, .ins C dx fs)) (hl : fs.length < 1000) (q : ∀ H', S F (cs.set n (a, .ins C dx (putF f y fs))) H' → R H') : SFldW K f y (.ref a) H R :=
  ⟨a, C, dx, fs, rfl, s.at n h, k.1, k.2, hl, q _ (s.set n h _)⟩
theorem x_callSD {W : WX} (h : t σ H fun vs H1 => sp (vs ++ ds) H1 Q (WE W σ)) : tCallSD sp ds (WE W) t σ H Q := h
end
/-! ### raise, try .. except X as n -/
/-- a field's name that a class does not have, a constant of a class -/
def tRaiseM (C : Addr) (sp : Sp) (dvs : List V) (ta : TA) (W : WX) : TS := fun _ σ H => tMkO C sp dvs ta σ H fun cls d H' => W cls d σ H'
def tTry (K : PySem.W.Frag) (c : Value) (i : Nat) (tb : WX → TS) (ts : Addr → Value → Option Addr → TS) (Wout : WX) : TS := fun D σ H => tb (wAs K c i ts Wout D) D σ H
section
variable {X : Cx} {C : Addr} {k : Nat} {d : ErrD} {x : Str} {W : WX} {p pos pos2 : Pos} {e : Expr} {ta : TA} {file : Str} {ps : List Str}
/-- what callers see of an own error -/
structure RaiseOk (P : Program) (w : World) (K : PySem.W.Frag) (mg : Str → Option Value) (base : Heap) (d : ErrD) (ps : List Str) : Prop where
  ex : ∃ fd, FnOk P w K mg base (L2.CX P w) 1 (iA K d.cls) fd ps (sp_err d K) ∧ Binds K fd ps [] ∧ mg d.cls = some (.ref (He.ga K d.cls)) ∧ OexC K (He.ga K d.cls) ∧
    PySem.W.findIn K (.ref (He.ga K d.cls)) "__init__" = some (some (.ref (iA K d.cls))) ∧ PySem.W.typeIn K (.ref (iA K d.cls)) = some (.type "function")
theorem ps_raiseM (hc : X.calm = true) (R : RaiseOk X.prog X.w X.K X.mg X.base d ps) (hr : Room 2 X.A) (tkw : Takes X W) (hp : Passes (L2.CX X.prog X.w) X (fun _ _ _ => False)) (hd : d.cls = x) (hg : Gl X x) (ha : PA X [e] ta)
    (hdb : (x == ("__debug__" : Str)) = false := by decide) (he : starEach [e] X.env = (false, eval e X.env) :: starEach [] X.env := by rfl) (hpl : (backTo pos (starEach [] X.env)).any (·.1) = false := by rfl) :
    PS X (.Raise (some (.Call (.Name x p) [e] [] pos)) none pos2) (tRaiseM (He.ga X.K x) (sp_err d X.K) [] ta W) := by
  subst hd
  obtain ⟨fd, F1, hb, hm, T, iC, tI⟩ := R.ex
  exact ps_raise hc tkw (pmk_oex T iC tI F1 hr hb .nil hp hg hm ha hdb he hpl)
end
/-- raise: the error's dict, new, holds the field -/
def RaiseW (C : Addr) (sp : Sp) (W : WX) (σ : L2.St) (vs : List V) (H1 : Hp) : Prop := vs.length ≤ 1000 ∧ ∀ a, H1 a = none → sp (.ref a :: (vs ++ [])) (upd H1 a (exo a C none))
  (fun v H2 => v = .non ∧ ∃ (d : Addr) (fs : List (Str × V)), H2 a = some (exo a C (some d)) ∧ H2 d = some (exd d fs) ∧ H1 d = none ∧ W (.ref C) (some d) σ (upd (del H2 a) d (.xd fs))) (fun _ _ _ => False)
section
variable {K : PySem.W.Frag} {d : ErrD} {ta : TA} {W : WX} {D : Ends} {σ : L2.St} {H : Hp} {C : Addr} {sp : Sp} {v : V}
theorem x_raiseM (h : ta σ H fun vs H1 => RaiseW C sp W σ vs H1) : tRaiseM C sp [] ta W D σ H := h
theorem x_rz (hC : He.ga K d.cls = C) (q : ∀ dd, H dd = none → W (.ref C) (some dd) σ (upd H dd (.xd [(d.fld, v)]))) : RaiseW C (sp_err d K) W σ [v] H := by
  subst hC
  refine ⟨by show 1 ≤ 1000; decide, fun a ha => ⟨a, v, rfl, upd_same, fun dx h1 h2 => ⟨rfl, dx, [(d.fld, v)], upd_same, ?_, ?_, ?_⟩⟩⟩
  · rw [upd_ne h2, upd_same]
  · rw [upd_ne h2] at h1
    exact h1
  · have e : upd (del (upd (upd (upd H a (exo a (He.ga K d.cls) none)) dx (exd dx [(d.fld, v)])) a (exo a (He.ga K d.cls) (some dx))) a) dx (.xd [(d.fld, v)]) = upd H dx (.xd [(d.fld, v)]) := by
      funext b
      by_cases hb : b = dx
      · rw [hb, upd_same, upd_same]
      · rw [upd_ne hb, upd_ne hb]
        by_cases hb2 : b = a
        · rw [hb2, del_same, ha]
        · rw [del_ne hb2, upd_ne hb2, upd_ne hb, upd_ne hb2]
    rw [e]
    refine q dx ?_
    rw [upd_ne h2] at h1
    exact h1
end
/-! ### isinstance and a field of a caught error -/
section
open PySem.W
variable {prog : Program} {w : World} {A : Around} {E : Value → Shared → Prop} {s : Shared} {K : Frag} {x D : Addr} {ox : Obj} {od : Option Obj}
theorem class_of {Q : Option Value → Shared → Prop} (c : ExcC K D) (X : K.In s.heap) (I : InstAt s.heap x ox D od) (h : Q (some (.ref D)) { s with toks := s.toks + 1 }) : wpAny (model prog w) A (getAttr? (.ref x) "__class__") Q E s := by
  have hf : findObj K D od "__class__" = some (.bind (.builtin "getset_descriptor.__get__") (.builtin "object.__class__")) := by
    obtain ⟨cd, hc, _⟩ := any_some c.hd
    unfold findObj
    rw [hc, Option.bind_some, c.ha, Option.bind_some]
    simp [c.hn, c.ht]
  obtain ⟨hp, g, dr, t, os⟩ := s
  have l0 := I.type (M := model prog w)
  have l1 := looks_findIn (M := model prog w) X c.hg
  have l2 := looks_findIn (M := model prog w) X c.hk
  have l3 := looks_find (M := model prog w) X I hf
  have sb : Looks (model prog w) hp (isInstance (.ref x) (.type "BaseException")) true := l0.andThen (looks_subIn X c.hs)
  unfold getAttr? getAttrBy? getAttrBy
  refine wpAny_bind (wpAny_mkText (wpAny_bind (wpAny_attempt (wpAny_holding (wpAny_bind (l0.at (wpAny_bind (l1.at ?_))))))))
  show wpAny _ _ (if (onTheHeap (Value.ref D) && Value.builtin "BaseException.__getattribute__" == Value.builtin "object.__getattribute__") = true then _ else _) _ _ _
  rw [if_neg (show ¬ (onTheHeap (Value.ref D) && Value.builtin "BaseException.__getattribute__" == Value.builtin "object.__getattribute__") = true by
    rw [show (Value.builtin "BaseException.__getattribute__" == Value.builtin "object.__getattribute__") = false from by decide +kernel, Bool.and_false]
    exact Bool.false_ne_true)]
  unfold getAttrByItsOwn hookBefore
  refine wpAny_bind ?_
  rw [if_pos (show onTheHeap (Value.ref D) = true from rfl)]
  refine l2.at (wpAny_bind (wpAny_attempt (wpAny_holding ?_)))
  unfold callGetattribute
  rw [show (false && onTheHeap (Value.builtin "BaseException.__getattribute__")) = false from rfl, if_neg Bool.false_ne_true]
  unfold boundAndCalled
  rw [PySem.F.excAttr_ValueError.ga.bind (.ref x)]
  refine wpAny_bind (wpAny_pure ?_)
  show wpAny _ _ (call (.builtin "BaseException.__getattribute__") [.ref x, .str "__class__" t]) _ _ _
  refine wpAny_call (codeAny_call_builtin PySem.F.excAttr_ValueError.ga.plain PySem.F.entry_bexc_ga ?_)
  refine @check_slot (model prog w) _ _ ⟨hp, g, dr, t + 1, os⟩ "BaseException.__getattribute__" "BaseException" "__getattribute__" (.ref x) [.str "__class__" t] [] _ (by decide +kernel) (by decide +kernel) sb (PySem.F.args_bexc_ga (.ref x) (.str "__class__" t)) ?_
  unfold Builtin.«object.__getattribute__»
  refine wpAny_bind (wpAny_of_eq (a := ((Value.ref x : Value), [Value.str "__class__" t])) (by first | rfl | (simp only [slotArgs]; rfl)) ?_)
  refine wpAny_bind (wpAny_pure (wpAny_bind (l0.at (wpAny_bind (l3.at ?_)))))
  show wpAny _ _ (holding [Value.builtin "object.__class__"] (call (.builtin "getset_descriptor.__get__") [.builtin "object.__class__", .ref x, .ref D]) >>= ret) _ _ _
  refine wpAny_bind (wpAny_holding (wpAny_call (class_get (s := ⟨hp, g, dr, t + 1, os⟩) (ox := ox) (od := od) X I c.hm (wpAny_pure ?_))))
  show wpAny _ _ (handedOut (.ref D)) _ _ _
  rw [handedOut_of (v := .ref D) rfl]
  first
    | exact wpAny_pure (wpAny_pure h)
    | exact wpAny_pure h
    | exact wpAny_pure (wpAny_bind (wpAny_pure (wpAny_pure h)))
theorem kit_err (c : ExcC K D) : KitX K (.ref x) (.ref D) (fun h => InstAt h x ox D od) := by
  have cl : ∃ o, K.lookup D = some o ∧ ∃ cd, o.data = .cls cd := by
    obtain ⟨cd, hc, _⟩ := any_some c.hd
    unfold clsIn at hc
    split at hc
    · rename_i a b cd' sl ho
      exact ⟨_, ho, _, rfl⟩
    · cases hc
  obtain ⟨o, ho, cd, hcd⟩ := cl
  refine ⟨fun _ _ _ I => I.type, fun _ _ X _ => ?_, fun h tp dd its n sl X htp => ?_, fun X I k => class_of c X I k⟩
  · intro A' Q' E' s' k q
    unfold isType loadHead
    refine wpAny_bind (wpAny_loadPart (k _ _ (X _ _ ho)) ?_)
    rw [hcd]
    exact wpAny_pure q
  · cases z : (Value.ref D == Value.ref tp) with
    | false => rfl
    | true =>
      obtain rfl : D = tp := Value.ref.inj (beq_iff_eq.mp z)
      rw [X _ _ ho] at htp
      cases htp
      cases hcd
end
/-- isinstance(e, class) or isinstance(e, (class, ..)), e the error that the suite holds -/
def rIsED (K : PySem.W.Frag) (cls : Value) (d : Option Addr) (a : Addr) : List V → Hp → VK → Prop := fun xs H Q => ∃ (D dd : Addr) (fs : List (Str × V)) (y : V), cls = .ref D ∧ d = some dd ∧ H dd = some (.xd fs) ∧ ExcC K D ∧ xs = [.ref a, y] ∧
  ((∃ (cv : Value) (b : Bool), (∀ u, RelV y u → u = cv) ∧ PySem.W.kitOne K (.ref D) cv = some b ∧ Q (.bl b) H) ∨
    ∃ (p : Addr) (Cs : List Addr) (b : Bool), y = .ref p ∧ SqT K H p (Cs.map V.ref) ∧ PySem.W.kitAny K (.ref D) (Cs.map Value.ref) = some b ∧ Q (.bl b) H)
theorem vals_refs : ∀ {Cs : List Addr} {us : List Value}, Vals (Cs.map V.ref) us → us = Cs.map Value.ref
  | [], _, .nil => rfl
  | c :: Cs, _, .cons r t => by
    cases r
    rw [vals_refs t]
    rfl
theorem call_isED {X : Cx} {a : Addr} {oe : Obj} {cls : Value} {d : Option Addr} {pn : List (Addr × Obj)} (hz : Zc cls d oe) (hf : ∃ vs, oe.data = .fields vs) : CallR (X.suite a ((a, oe) :: pn)) (.builtin "isinstance") (rIsED X.K cls d a) := by
  intro pins s σ H xs us Q I r h
  obtain ⟨D, dd, fs, y, rfl, rfl, hx, c, rfl, h⟩ := h
  cases r with | cons rx rr => ?_
  cases rr with | cons rt rr => ?_
  cases rr
  cases rx
  obtain ⟨hget, _⟩ := I.pin (a, oe) (List.mem_append_left _ List.mem_cons_self)
  obtain ⟨vs, hv⟩ := hf
  have ox : ObjOk X.prog X.w H s.heap dd (.xd fs) := I.hok dd _ hx
  obtain ⟨od, ho⟩ := objOk_get ox
  have J : PySem.W.InstAt s.heap a oe D (some od) := ⟨hget, hz.1, by unfold PySem.W.notCls; rw [hv] <;> rfl, by rw [hz.2]; exact ho⟩
  rcases h with ⟨cv, b, hcv, e, q⟩ | ⟨p, Cs, b, rfl, hp, e, q⟩
  · have ec := hcv _ rt
    subst ec
    exact PySem.W.kia_one (kit_err c) I.kIn J e (fun z => nomatch z) fun tk => ⟨.bl b, H, I.kept (t' := tk) fun _ _ z => z, rfl, q⟩
  · cases rt
    obtain ⟨its, rv, ⟨o, hto, hcl, n, hdt⟩, _⟩ := I.tuple hp
    have eits := vals_refs rv
    subst eits
    obtain ⟨oc, odd, odt, osl⟩ := o
    dsimp only at hcl hdt
    subst hcl hdt
    exact PySem.W.kia_tup (kit_err c) I.kIn J hto e (fun z => nomatch z) fun tk => ⟨.bl b, H, I.kept (t' := tk) fun _ _ z => z, rfl, q⟩
/-- what the class of a caught error says -/
def erB (K : PySem.W.Frag) (D : Addr) : Bool := decide (PySem.W.findIn K (.ref D) "__getattribute__" = some (some (.builtin "BaseException.__getattribute__"))) && (decide (PySem.W.findIn K (.ref D) "__getattr__" = some none) && (decide (PySem.W.subIn K (.ref D) (.type "BaseException") = some true) &&
  (PySem.W.hasDictIn K D && (decide (PySem.W.findIn K (.ref D) "__class__" = some (some (.builtin "object.__class__"))) && (decide (PySem.W.specialIn K (.builtin "object.__class__") "__get__" = some (some (.builtin "getset_descriptor.__get__"))) &&
  (decide (PySem.W.takesIn K (.builtin "object.__class__") = some true) && decide (PySem.W.mroIn K D (.type "object") = some true)))))))
theorem erB_ok {K : PySem.W.Frag} {D : Addr} (h : erB K D = true) : ExcC K D ∧ XfC K D := by
  unfold erB at h
  obtain ⟨h1, h⟩ := He.ba h
  obtain ⟨h2, h⟩ := He.ba h
  obtain ⟨h3, h⟩ := He.ba h
  obtain ⟨h4, h⟩ := He.ba h
  obtain ⟨h5, h⟩ := He.ba h
  obtain ⟨h6, h⟩ := He.ba h
  obtain ⟨h7, h8⟩ := He.ba h
  exact ⟨⟨of_decide_eq_true h1, of_decide_eq_true h2, of_decide_eq_true h3, h4, of_decide_eq_true h5, of_decide_eq_true h6, of_decide_eq_true h7, of_decide_eq_true h8⟩, ⟨of_decide_eq_true h1, of_decide_eq_true h2, of_decide_eq_true h3, h4⟩⟩
section
variable {K : PySem.W.Frag} {σ : L2.St} {H : Hp} {Q : VK} {a D dd C p : Addr} {fs : List (Str × V)} {f : Str} {v : V} {te : TE} {b : Bool} {y : V}
theorem x_isE {cv : Value} (hx : H dd = some (.xd fs)) (c : ExcC K D) (hcv : ∀ u, RelV y u → u = cv) (e : PySem.W.kitOne K (.ref D) cv = some b) (q : Q (.bl b) H) : rIsED K (.ref D) (some dd) a [.ref a, y] H Q :=
  ⟨D, dd, fs, y, rfl, rfl, hx, c, rfl, .inl ⟨cv, b, hcv, e, q⟩⟩
theorem x_isET {Cs : List Addr} (hx : H dd = some (.xd fs)) (c : ExcC K D) (hp : SqT K H p (Cs.map V.ref)) (e : PySem.W.kitAny K (.ref D) (Cs.map Value.ref) = some b) (q : Q (.bl b) H) : rIsED K (.ref D) (some dd) a [.ref a, .ref p] H Q :=
  ⟨D, dd, fs, _, rfl, rfl, hx, c, rfl, .inr ⟨p, Cs, b, rfl, hp, e, q⟩⟩
def XfW (a : Addr) (cls : Value) (d : Option Addr) (C : Addr) (f : Str) (x : V) (H1 : Hp) (Q : VK) : Prop := x = .ref a ∧ cls = .ref C ∧ ∃ (dd : Addr) (fs : List (Str × V)) (v : V), d = some dd ∧ H1 dd = some (.xd fs) ∧ fs.lookup f = some v ∧ Q v H1
theorem x_xf {cls : Value} {d : Option Addr} (h : te σ H fun x H1 => XfW a cls d C f x H1 Q) : tXf a cls d C f te σ H Q := h
theorem x_xf1 (hx : H dd = some (.xd fs)) (l : fs.lookup f = some v) (q : Q v H) : XfW a (.ref C) (some dd) C f (.ref a) H Q := ⟨rfl, rfl, dd, fs, v, rfl, hx, l, q⟩
end
end My

namespace My
open PySem PySem.Spec L2 PyProof.Rows
/-! ### the head's facts by an own Hook: He's facts and defs, own errors, one Bool more -/
abbrev AlM : Type := He.AlD × (List ErrV × Bool)
def asM (n : Nat) (g : Addr → Option Obj) : List Addr := cStatics :: He.asD g n
def obsM (n : Nat) (fa : List He.Fa) (fn : List He.DefD) (es : List ErrD) (file : Str) (ex : PySem.W.Frag → Bool) (g : Addr → Option Obj) : AlM :=
  (He.obsD fa fn (He.frT g (asM n g)), es.map fun d => errW (He.frT g (asM n g)) d.cls, ex (He.frT g (asM n g)) && (decide (PySem.W.nsIn (He.frT g (asM n g)) cStatics "thirdparty.any" = some none) && es.all fun d => errB (He.frT g (asM n g)) d file))
def valM (fn : List He.DefD) (es : List ErrD) : AlM := (He.valD fn, es.map ErrD.val, true)
structure SaysM (fa : List He.Fa) (fn : List He.DefD) (es : List ErrD) (file : Str) (ex : PySem.W.Frag → Bool) (K : PySem.W.Frag) : Prop where
  d : He.SaysD fa fn K
  more : ex K = true
  op : PySem.W.nsIn K cStatics "thirdparty.any" = some none
  err : ∀ (i : Nat) {d : ErrD}, es[i]? = some d → ErrK K d file
theorem saysM_of {n : Nat} {fa : List He.Fa} {fn : List He.DefD} {es : List ErrD} {file : Str} {ex : PySem.W.Frag → Bool} {g : Addr → Option Obj} (e : obsM n fa fn es file ex g = valM fn es) : SaysM fa fn es file ex (He.frT g (asM n g)) := by
  have e1 : He.obsD fa fn (He.frT g (asM n g)) = He.valD fn := congrArg (fun z : AlM => z.1) e
  have e2 : (es.map fun d => errW (He.frT g (asM n g)) d.cls) = es.map ErrD.val := congrArg (fun z : AlM => z.2.1) e
  have e3 : (ex (He.frT g (asM n g)) && (decide (PySem.W.nsIn (He.frT g (asM n g)) cStatics "thirdparty.any" = some none) && es.all fun d => errB (He.frT g (asM n g)) d file)) = true := congrArg (fun z : AlM => z.2.2) e
  obtain ⟨h1, h2⟩ := He.ba e3
  obtain ⟨h3, h4⟩ := He.ba h2
  refine ⟨e1, h1, of_decide_eq_true h3, fun i d hi => ?_⟩
  have e4 : (es.map fun d => errW (He.frT g (asM n g)) d.cls)[i]? = (es.map ErrD.val)[i]? := by rw [e2]
  rw [List.getElem?_map, List.getElem?_map, hi] at e4
  exact errK_of (Option.some.inj e4) (List.all_eq_true.mp h4 d (List.mem_of_getElem? hi))
def hookM (n : Nat) (fa : List He.Fa) (fn : List He.DefD) (es : List ErrD) (file : Str) (ex : PySem.W.Frag → Bool) : PySem.W.Hook where
  α := AlM
  obs := fun s => obsM n fa fn es file ex s.heap.get?
  val := fun _ => valM fn es
  says := fun _ h => ∃ K : PySem.W.Frag, K.In h ∧ SaysM fa fn es file ex K
  of := fun _ _ e => ⟨_, He.frT_in, saysM_of e⟩
  keeps := fun _ _ _ ⟨K, hK, c⟩ k => ⟨K, PySem.W.Frag.In.keeps hK k, c⟩
theorem obsM_eq {n : Nat} {fa : List He.Fa} {fn : List He.DefD} {es : List ErrD} {file : Str} {ex : PySem.W.Frag → Bool} {g : Addr → Option Obj} {s : Shared} (h : ∀ a, g a = s.heap.get? a) : obsM n fa fn es file ex g = (hookM n fa fn es file ex).obs s := by
  have e : g = s.heap.get? := funext h
  rw [e] <;> rfl
end My

namespace My
open PySem PySem.Spec L2
def tNevE : TE := fun _ _ _ => False
theorem pe_nev {X : Cx} {e : Expr} : PE X e tNevE := ⟨fun _ _ _ _ _ _ h => h.elim⟩
theorem x_try {K : PySem.W.Frag} {c : Value} {i : Nat} {tb : WX → TS} {ts : Addr → Value → Option Addr → TS} {Wout : WX} {D : Ends} {σ : L2.St} {H : Hp} (h : tb (wAs K c i ts Wout D) D σ H) : tTry K c i tb ts Wout D σ H := h
end My

namespace My
open PySem PySem.Spec L2
theorem S.exE {α : Type} {P : α → Hp → Prop} {cs : List (Addr × HO)} {H : Hp} (s : S (fun B => ∃ x, P x B) cs H) (m : ∀ x, Mono (P x) := by infer_instance) : ∃ x, S (fun B => P x B) cs H := by
  obtain ⟨_, ⟨B, e, ⟨x, f⟩, fr⟩, c, nd⟩ := s
  exact ⟨x, ⟨m x, ⟨B, e, f, fr⟩, c, nd⟩⟩
/-- tuple(..) of a list or a tuple whose items are known -/
theorem x_tupB {K : PySem.W.Frag} {F : Hp → Prop} {cs : List (Addr × HO)} {H : Hp} {Q : VK} {p : Addr} {xs : List V} {b : Bool} (hF : ∀ B, F B → SqB b K B p xs) (s : S F cs H) (k : ∀ r H', S (fun B => SqB false K B r xs ∧ F B) cs H' → Q (.ref r) H') : rTuple1 K [.ref p] H Q := by
  have mF := s.mono
  cases b
  · exact x_tupofT (hF _ s.fact) (k p H (s.imp fun B f => ⟨hF B f, f⟩))
  · exact x_tupof (hF _ s.fact) s fun r H' s' => k r H' s'.freezeT
end My

namespace My
theorem fm_map {β : Type} (f : Nat → β) : ∀ n : Nat, (List.range n).filterMap (fun i => some (f i)) = (List.range n).map f
  | 0 => rfl
  | n + 1 => by
    rw [List.range_succ, List.filterMap_append, fm_map f n, List.map_append]
    rfl
theorem fm_const {β : Type} (v : β) (n : Nat) : (List.range n).filterMap (fun _ => some v) = List.replicate n v := by
  rw [fm_map (fun _ => v)]
  induction n with
  | zero => rfl
  | succ n ih => rw [List.range_succ, List.map_append, ih, List.replicate_succ']; rfl
end My

namespace My
open PySem PySem.Spec L2
theorem dpAll_snoc {K : PySem.W.Frag} {H : Hp} : ∀ {xs : List V} {ds : List PyData} {v : V} {d : PyData}, DpAll K H xs ds → Dp K H v d → DpAll K H (xs ++ [v]) (ds ++ [d])
  | _, _, _, _, .nil, h => .cons h .nil
  | _, _, _, _, .cons a b, h => .cons a (dpAll_snoc b h)
theorem dpAll_ints {K : PySem.W.Frag} {H : Hp} : ∀ ns : List Int, DpAll K H (ns.map V.int) (ns.map PyData.int)
  | [] => .nil
  | n :: r => .cons (.int n) (dpAll_ints r)
theorem dp_ints {K : PySem.W.Frag} {H : Hp} {p : Addr} {ns : List Int} (h : SqL K H p (ns.map V.int)) : Dp K H (.ref p) (.list (ns.map PyData.int)) := .lst h (dpAll_ints ns)
theorem b8000 {n : Int} (h : n ≤ 1000000) : n < 2 ^ 8000 := Int.lt_of_le_of_lt h (by decide +kernel)
/-- two lists of the same ints are not unlike -/
theorem x_neInts {K : PySem.W.Frag} {H : Hp} {Q : VK} {p q : Addr} {ns : List Int} (hp : SqL K H p (ns.map V.int)) (hq : SqL K H q (ns.map V.int)) (k : Q (.bl false) H) : rNe1 K (.ref p) (.ref q) H Q := by
  refine .inr ⟨.list (ns.map PyData.int), .list (ns.map PyData.int), dp_ints hp, dp_ints hq, PySem.W.ke_shaped_ints ns, PySem.W.ke_shaped_ints ns, ?_⟩
  rw [SeqAt.eqv_refl _ (SeqAt.canLay_of_shaped (PySem.W.ke_shaped_ints ns))]
  exact k
end My

namespace My
open PySem PySem.Spec L2
theorem was_true {K : PySem.W.Frag} {c cls : Value} {i : Nat} {ts : Addr → Value → Option Addr → TS} {Wout : WX} {D : Ends} {d : Option Addr} {σ : L2.St} {H : Hp} (h : PySem.W.exmOne K cls c = some true)
    (q : ∀ a, H a = none → ts a cls d { nx := fun σ' H' => D.nx (σ'.set i none) H', rt := D.rt, bk := fun σ' H' => D.bk (σ'.set i none) H', ct := fun σ' H' => D.ct (σ'.set i none) H' } (σ.set i (some (.ref a))) H) : wAs K c i ts Wout D cls d σ H :=
  ⟨true, h, fun _ => q, fun z => by cases z⟩
end My

namespace My
open PySem PySem.Spec L2
theorem x_intB0 {H : Hp} {Q : VK} (q : Q (.int 0) H) : rInt1 [.bl false] H Q := x_intB q
theorem x_intB1 {H : Hp} {Q : VK} (q : Q (.int 1) H) : rInt1 [.bl true] H Q := x_intB q
end My

namespace My
open PySem PySem.Spec L2
local macro_rules | `(tactic| walk_at "m") => `(tactic| first | exact List.Mem.head _ | (refine List.Mem.tail _ ?_; first | exact List.Mem.head _ | (refine List.Mem.tail _ ?_; first | exact List.Mem.head _ | (refine List.Mem.tail _ ?_; first | exact List.Mem.head _ | (refine List.Mem.tail _ ?_; first | exact List.Mem.head _ | (refine List.Mem.tail _ ?_; first | exact List.Mem.head _ | (refine List.Mem.tail _ ?_; first | exact List.Mem.head _ | (refine List.Mem.tail _ ?_; exact List.Mem.head _))))))))
local macro_rules | `(tactic| walk_at "sx1") => `(tactic| first
  | with_reducible refine x_seq ?_
  | with_reducible refine x_asg ?_
  | ((with_reducible refine x_gname ?_); (try dsimp only [List.set_cons_succ, List.set_cons_zero]))
  | with_reducible refine x_next ?_
  | with_reducible refine x_ret ?_
  | with_reducible refine x_drop ?_
  | with_reducible refine x_ifs ?_
  | ((with_reducible refine x_var (v := ?v) ?hv ?_); (case hv => exact rfl))
  | with_reducible refine x_c ?_
  | with_reducible refine x_op ?_
  | with_reducible refine x_un ?_
  | with_reducible refine x_test ?_
  | with_reducible refine x_bl ?_
  | with_reducible refine x_tr ?_
  | with_reducible refine x_trB ?_
  | with_reducible refine x_and ?_
  | with_reducible refine x_or ?_
  | with_reducible refine x_not ?_
  | with_reducible refine x_ifE ?_
  | with_reducible refine x_chain ?_
  | with_reducible refine x_andV ?_
  | with_reducible refine x_orV ?_
  | with_reducible refine x_notV ?_
  | with_reducible refine x_cons ?_
  | with_reducible refine x_nil ?_
  | with_reducible refine x_tup ?_
  | with_reducible refine x_lst ?_
  | with_reducible refine x_call ?_
  | with_reducible refine x_cb ?_
  | with_reducible refine x_bm ?_
  | with_reducible refine x_gsub ?_
  | with_reducible refine x_sl ?_
  | with_reducible refine x_np ?_
  | with_reducible refine x_pt ?_
  | with_reducible refine x_exi ?_
  | with_reducible refine x_gcons ?_
  | with_reducible refine x_gnil ?_
  | with_reducible refine x_m1 ?_
  | with_reducible refine x_isS ?_
  | with_reducible refine x_callN ?_
  | with_reducible refine x_forW ?_
  | with_reducible refine x_lcW ?_
  | with_reducible refine x_iSq ?_
  | with_reducible refine x_iEn ?_
  | with_reducible refine x_fld ?_
  | with_reducible refine x_con ?_
  | with_reducible refine x_meth ?_
  | with_reducible refine x_make ?_
  | with_reducible refine x_makeK ?_
  | with_reducible refine x_sfld ?_
  | with_reducible refine x_callSD ?_
  | with_reducible refine x_raiseM ?_
  | with_reducible refine x_try ?_
  | with_reducible refine x_xf ?_
  | with_reducible refine x_iR1 ?_
  | with_reducible refine x_iR2 ?_
  | with_reducible refine x_iStr ?_
  | with_reducible refine x_yes0 ?_
  | with_reducible refine x_retN ?_
  | with_reducible refine x_cont ?_
  | with_reducible refine x_brk ?_
  | with_reducible refine x_addI ?_
  | with_reducible refine x_I0 ?_
  | with_reducible refine x_neg ?_
  | with_reducible refine x_inS ?_
  | with_reducible refine x_ninS ?_
  | with_reducible refine x_band ?_
  | with_reducible refine x_bor ?_
  | with_reducible refine x_bxor ?_
  | with_reducible refine x_eqI ?_
  | with_reducible refine x_neI ?_
  | with_reducible refine x_int ?_
  | with_reducible refine x_intB0 ?_
  | with_reducible refine x_intB1 ?_
  | with_reducible refine x_abs ?_
  | with_reducible refine x_isN ?_
  | with_reducible refine x_isB ?_
  | with_reducible refine x_notN ?_
  | with_reducible refine iteF ?_
  | with_reducible refine x_ntF ?_
  | with_reducible refine x_ntT ?_
  | with_reducible refine iteT ?_
  | ((with_reducible refine x_pow ?hc ?_); (case hc => exact ⟨by decide, by decide, by decide⟩))
  | ((with_reducible refine x_div (cdiv ?hc ?hd) ?_); (case hc => first | decide | omega); (case hd => first | decide | omega))
  | ((with_reducible refine x_mulI (cmul_l ?hc) ?_); (case hc => first | decide | omega))
  | ((with_reducible refine x_mulI (cmul_r ?hc) ?_); (case hc => first | decide | omega))
  | ((with_reducible refine x_mod ?hc ?_); (case hc => first | decide | omega))
  | ((with_reducible refine x_ixC (xs := ?xs) (v := ?v) (by assumption) ?hm ?he ?_); (case hm => walk_at "m"); (case he => exact rfl))
  | ((with_reducible refine x_lenC (xs := ?xs) (by assumption) ?hm ?_); (case hm => walk_at "m"))
  | ((with_reducible refine x_tyC (xs := ?xs) (by assumption) ?hm ?_); (case hm => walk_at "m")))
local macro_rules | `(tactic| walk_at "sx") => `(tactic| repeat walk_at "sx1")
local macro_rules | `(tactic| walk_at "wipe") => `(tactic| (dsimp only [wipe, List.set_cons_succ, List.set_cons_zero]))
local macro_rules | `(tactic| walk_at "gn") => `(tactic| (with_reducible refine x_gname ?_; dsimp only [List.set_cons_succ, List.set_cons_zero]))

def top (i : Nat) : Stmt := PySem.Challenge.pw_gatesofcloth_k03_whole_feeds_tick_by_tic.main.body.getD i (.Pass ⟨0, 0, 0, 0⟩)
abbrev s_check_feed : Stmt := top 21
def dd_check_feed : He.DefD := ⟨("check_feed", none), "check_feed", "check_feed", defArgs s_check_feed, defBody s_check_feed, defScope s_check_feed, [], []⟩
abbrev s_replies_to : Stmt := top 22
def dd_replies_to : He.DefD := ⟨("replies_to", none), "replies_to", "replies_to", defArgs s_replies_to, defBody s_replies_to, defScope s_replies_to, [], []⟩
abbrev s_replies_from : Stmt := top 23
def dd_replies_from : He.DefD := ⟨("replies_from", none), "replies_from", "replies_from", defArgs s_replies_from, defBody s_replies_from, defScope s_replies_from, [], []⟩
abbrev s_visits : Stmt := top 24
def dd_visits : He.DefD := ⟨("visits", none), "visits", "visits", defArgs s_visits, defBody s_visits, defScope s_visits, [], []⟩
abbrev s_state_after : Stmt := top 25
def dd_state_after : He.DefD := ⟨("state_after", none), "state_after", "state_after", defArgs s_state_after, defBody s_state_after, defScope s_state_after, [], []⟩
abbrev s_is_entry : Stmt := top 27
def dd_is_entry : He.DefD := ⟨("_is_entry", none), "_is_entry", "_is_entry", defArgs s_is_entry, defBody s_is_entry, defScope s_is_entry, [], []⟩
abbrev s_Control__init : Stmt := inClass (top 28) 3
def dd_Control__init : He.DefD := ⟨("Control", some "__init__"), "__init__", "Control.__init__", defArgs s_Control__init, defBody s_Control__init, defScope s_Control__init, [], [("start", .int 0)]⟩
abbrev s_Control_entry : Stmt := inClass (top 28) 6
def dd_Control_entry : He.DefD := ⟨("Control", some "entry"), "entry", "Control.entry", defArgs s_Control_entry, defBody s_Control_entry, defScope s_Control_entry, [], []⟩
abbrev s_Control_started : Stmt := inClass (top 28) 8
def dd_Control_started : He.DefD := ⟨("Control", some "started"), "started", "Control.started", defArgs s_Control_started, defBody s_Control_started, defScope s_Control_started, [], []⟩
abbrev s_law_pool : Stmt := top 30
def dd_law_pool : He.DefD := ⟨("_law_pool", none), "_law_pool", "_law_pool", defArgs s_law_pool, defBody s_law_pool, defScope s_law_pool, [], []⟩
abbrev s_law_draw : Stmt := top 31
def dd_law_draw : He.DefD := ⟨("_law_draw", none), "_law_draw", "_law_draw", defArgs s_law_draw, defBody s_law_draw, defScope s_law_draw, [], []⟩
abbrev s_law_same : Stmt := top 32
def dd_law_same : He.DefD := ⟨("_law_same", none), "_law_same", "_law_same", defArgs s_law_same, defBody s_law_same, defScope s_law_same, [], []⟩
abbrev s_law_rows : Stmt := top 33
def dd_law_rows : He.DefD := ⟨("_law_rows", none), "_law_rows", "_law_rows", defArgs s_law_rows, defBody s_law_rows, defScope s_law_rows, [], []⟩
abbrev s_law_asked : Stmt := top 34
def dd_law_asked : He.DefD := ⟨("_law_asked", none), "_law_asked", "_law_asked", defArgs s_law_asked, defBody s_law_asked, defScope s_law_asked, [], []⟩
abbrev s_law_led : Stmt := top 35
def dd_law_led : He.DefD := ⟨("_law_led", none), "_law_led", "_law_led", defArgs s_law_led, defBody s_law_led, defScope s_law_led, [], []⟩
abbrev s_law_feed : Stmt := top 36
def dd_law_feed : He.DefD := ⟨("_law_feed", none), "_law_feed", "_law_feed", defArgs s_law_feed, defBody s_law_feed, defScope s_law_feed, [], []⟩
abbrev s_law_faulty : Stmt := top 37
def dd_law_faulty : He.DefD := ⟨("_law_faulty", none), "_law_faulty", "_law_faulty", defArgs s_law_faulty, defBody s_law_faulty, defScope s_law_faulty, [], []⟩
abbrev s_law_first_fault : Stmt := top 38
def dd_law_first_fault : He.DefD := ⟨("_law_first_fault", none), "_law_first_fault", "_law_first_fault", defArgs s_law_first_fault, defBody s_law_first_fault, defScope s_law_first_fault, [], []⟩
abbrev s_law_all : Stmt := top 39
def dd_law_all : He.DefD := ⟨("_law_all", none), "_law_all", "_law_all", defArgs s_law_all, defBody s_law_all, defScope s_law_all, [], []⟩
abbrev s_law : Stmt := top 40
def dd_law : He.DefD := ⟨("law", none), "law", "law", defArgs s_law, defBody s_law, defScope s_law, [], []⟩
def fn : List He.DefD := ([dd_check_feed, dd_replies_to, dd_replies_from, dd_visits, dd_state_after, dd_is_entry, dd_Control__init, dd_Control_entry] : List He.DefD) ++ ([dd_Control_started, dd_law_pool, dd_law_draw, dd_law_same, dd_law_rows, dd_law_asked, dd_law_led, dd_law_feed] : List He.DefD) ++ ([dd_law_faulty, dd_law_first_fault, dd_law_all, dd_law] : List He.DefD)
def fa : List He.Fa := ([.glo "law", .free "enumerate", .cls "Control", .noat "Control" "start", .noat "Control" "cues", .meth "Control" "entry", .noat "Control" "rows", .free "len"] : List He.Fa) ++ ([.free "all", .free "tuple", .noat "Control" "states", .noat "Control" "replies", .mkr "Control", .glo "Control", .free "int", .free "abs"] : List He.Fa) ++ ([.free "range", .free "isinstance", .free "list", .free "dict", .free "str", .free "bool", .exm "FeedError" "FabricError" true, .free "ValueError"] : List He.Fa) ++ ([.glo "ExchangeError", .glo "FeedError", .glo "ControlError", .glo "SizeError", .glo "CommandError", .glo "HistoryError", .glo "StoreError", .glo "TapeError"] : List He.Fa) ++ ([.glo "PathError", .glo "EdgeError", .glo "ColouringError", .glo "FanoutError", .glo "NetlistError", .glo "CircuitError", .glo "ProgramError", .glo "MachineError"] : List He.Fa) ++ ([.glo "BitsError", .glo "FabricError", .meth "Control" "started", .glo "check_feed", .glo "replies_to", .glo "replies_from", .glo "visits", .glo "state_after"] : List He.Fa) ++ ([.glo "_is_entry", .glo "_law_pool", .glo "_law_draw", .glo "_law_same", .glo "_law_rows", .glo "_law_asked", .glo "_law_led", .glo "_law_feed"] : List He.Fa) ++ ([.glo "_law_faulty", .glo "_law_first_fault", .glo "_law_all", .free "super"] : List He.Fa)
def ex (K : PySem.W.Frag) : Bool := He.conB K "Control" "MOST_STATES" (.int 64) && He.conB K "Control" "MOST_CUES" (.int 16) && He.conB K "Control" "MOST_REPLIES" (.int 256) && decide (PySem.W.kitOne K (.ref (He.ga K "FeedError")) (.type "ValueError") = some true) && decide (PySem.W.kitOne K (.ref (He.ga K "FeedError")) (.ref (He.ga K "ExchangeError")) = some false) && decide (PySem.W.kitOne K (.ref (He.ga K "FeedError")) (.ref (He.ga K "FeedError")) = some true) && decide (PySem.W.kitOne K (.ref (He.ga K "FeedError")) (.ref (He.ga K "ControlError")) = some false) && decide (PySem.W.kitOne K (.ref (He.ga K "FeedError")) (.ref (He.ga K "SizeError")) = some false) && decide (PySem.W.kitAny K (.ref (He.ga K "FeedError")) [.ref (He.ga K "PathError"), .ref (He.ga K "TapeError"), .ref (He.ga K "StoreError"), .ref (He.ga K "HistoryError"), .ref (He.ga K "CommandError")] = some false) && decide (PySem.W.kitAny K (.ref (He.ga K "FeedError")) [.ref (He.ga K "CircuitError"), .ref (He.ga K "NetlistError"), .ref (He.ga K "FanoutError"), .ref (He.ga K "ColouringError"), .ref (He.ga K "EdgeError")] = some false) && decide (PySem.W.kitAny K (.ref (He.ga K "FeedError")) [.ref (He.ga K "BitsError"), .ref (He.ga K "MachineError"), .ref (He.ga K "ProgramError")] = some false) && erB K (He.ga K "FeedError") && true
abbrev s_err_FeedError : Stmt := inClass (top 18) 0
def ed_FeedError : ErrD := ⟨"FeedError", "FeedError.__init__", defArgs s_err_FeedError, defBody s_err_FeedError, defScope s_err_FeedError, "index"⟩
def es : List ErrD := [ed_FeedError]
def FILE : Str := PySem.Challenge.pw_gatesofcloth_k03_whole_feeds_tick_by_tic.main.file
structure KF (K : PySem.W.Frag) : Prop where
  fact : ∀ (i : Nat) {f : He.Fa}, fa[i]? = some f → f.ok K = true
  ex : ex K = true
theorem kcon_Control_MOST_STATES {K : PySem.W.Frag} (κ : KF K) : ∃ u, Con K (He.ga K "Control") "MOST_STATES" (.int 64) u := He.conB_ok (v := .int 64) ((He.ba (He.ba (He.ba (He.ba (He.ba (He.ba (He.ba (He.ba (He.ba (He.ba (He.ba (He.ba κ.ex).1).1).1).1).1).1).1).1).1).1).1).1)
theorem kcon_Control_MOST_CUES {K : PySem.W.Frag} (κ : KF K) : ∃ u, Con K (He.ga K "Control") "MOST_CUES" (.int 16) u := He.conB_ok (v := .int 16) ((He.ba (He.ba (He.ba (He.ba (He.ba (He.ba (He.ba (He.ba (He.ba (He.ba (He.ba (He.ba κ.ex).1).1).1).1).1).1).1).1).1).1).1).2)
theorem kcon_Control_MOST_REPLIES {K : PySem.W.Frag} (κ : KF K) : ∃ u, Con K (He.ga K "Control") "MOST_REPLIES" (.int 256) u := He.conB_ok (v := .int 256) ((He.ba (He.ba (He.ba (He.ba (He.ba (He.ba (He.ba (He.ba (He.ba (He.ba (He.ba κ.ex).1).1).1).1).1).1).1).1).1).1).2)
theorem kis_FeedError_ValueError {K : PySem.W.Frag} (κ : KF K) : PySem.W.kitOne K (.ref (He.ga K "FeedError")) (.type "ValueError") = some true := of_decide_eq_true ((He.ba (He.ba (He.ba (He.ba (He.ba (He.ba (He.ba (He.ba (He.ba (He.ba κ.ex).1).1).1).1).1).1).1).1).1).2)
theorem kis_FeedError_ExchangeError {K : PySem.W.Frag} (κ : KF K) : PySem.W.kitOne K (.ref (He.ga K "FeedError")) (.ref (He.ga K "ExchangeError")) = some false := of_decide_eq_true ((He.ba (He.ba (He.ba (He.ba (He.ba (He.ba (He.ba (He.ba (He.ba κ.ex).1).1).1).1).1).1).1).1).2)
theorem kis_FeedError_FeedError {K : PySem.W.Frag} (κ : KF K) : PySem.W.kitOne K (.ref (He.ga K "FeedError")) (.ref (He.ga K "FeedError")) = some true := of_decide_eq_true ((He.ba (He.ba (He.ba (He.ba (He.ba (He.ba (He.ba (He.ba κ.ex).1).1).1).1).1).1).1).2)
theorem kis_FeedError_ControlError {K : PySem.W.Frag} (κ : KF K) : PySem.W.kitOne K (.ref (He.ga K "FeedError")) (.ref (He.ga K "ControlError")) = some false := of_decide_eq_true ((He.ba (He.ba (He.ba (He.ba (He.ba (He.ba (He.ba κ.ex).1).1).1).1).1).1).2)
theorem kis_FeedError_SizeError {K : PySem.W.Frag} (κ : KF K) : PySem.W.kitOne K (.ref (He.ga K "FeedError")) (.ref (He.ga K "SizeError")) = some false := of_decide_eq_true ((He.ba (He.ba (He.ba (He.ba (He.ba (He.ba κ.ex).1).1).1).1).1).2)
theorem kis_FeedError_PathError_TapeError_StoreError_HistoryError_CommandError {K : PySem.W.Frag} (κ : KF K) : PySem.W.kitAny K (.ref (He.ga K "FeedError")) [.ref (He.ga K "PathError"), .ref (He.ga K "TapeError"), .ref (He.ga K "StoreError"), .ref (He.ga K "HistoryError"), .ref (He.ga K "CommandError")] = some false := of_decide_eq_true ((He.ba (He.ba (He.ba (He.ba (He.ba κ.ex).1).1).1).1).2)
theorem kis_FeedError_CircuitError_NetlistError_FanoutError_ColouringError_EdgeError {K : PySem.W.Frag} (κ : KF K) : PySem.W.kitAny K (.ref (He.ga K "FeedError")) [.ref (He.ga K "CircuitError"), .ref (He.ga K "NetlistError"), .ref (He.ga K "FanoutError"), .ref (He.ga K "ColouringError"), .ref (He.ga K "EdgeError")] = some false := of_decide_eq_true ((He.ba (He.ba (He.ba (He.ba κ.ex).1).1).1).2)
theorem kis_FeedError_BitsError_MachineError_ProgramError {K : PySem.W.Frag} (κ : KF K) : PySem.W.kitAny K (.ref (He.ga K "FeedError")) [.ref (He.ga K "BitsError"), .ref (He.ga K "MachineError"), .ref (He.ga K "ProgramError")] = some false := of_decide_eq_true ((He.ba (He.ba (He.ba κ.ex).1).1).2)
theorem ker_FeedError {K : PySem.W.Frag} (κ : KF K) : ExcC K (He.ga K "FeedError") ∧ XfC K (He.ga K "FeedError") := erB_ok ((He.ba (He.ba κ.ex).1).2)
theorem kfld_Control_start {K : PySem.W.Frag} (κ : KF K) : FldK K (He.ga K "Control") "start" := ⟨(He.cls_ok (κ.fact 2 (f := .cls "Control") rfl)), (He.noat_ok (κ.fact 3 (f := .noat "Control" "start") rfl))⟩
theorem kfld_Control_cues {K : PySem.W.Frag} (κ : KF K) : FldK K (He.ga K "Control") "cues" := ⟨(He.cls_ok (κ.fact 2 (f := .cls "Control") rfl)), (He.noat_ok (κ.fact 4 (f := .noat "Control" "cues") rfl))⟩
theorem kfld_Control_rows {K : PySem.W.Frag} (κ : KF K) : FldK K (He.ga K "Control") "rows" := ⟨(He.cls_ok (κ.fact 2 (f := .cls "Control") rfl)), (He.noat_ok (κ.fact 6 (f := .noat "Control" "rows") rfl))⟩
theorem kfld_Control_states {K : PySem.W.Frag} (κ : KF K) : FldK K (He.ga K "Control") "states" := ⟨(He.cls_ok (κ.fact 2 (f := .cls "Control") rfl)), (He.noat_ok (κ.fact 10 (f := .noat "Control" "states") rfl))⟩
theorem kfld_Control_replies {K : PySem.W.Frag} (κ : KF K) : FldK K (He.ga K "Control") "replies" := ⟨(He.cls_ok (κ.fact 2 (f := .cls "Control") rfl)), (He.noat_ok (κ.fact 11 (f := .noat "Control" "replies") rfl))⟩
theorem kcls_Control {K : PySem.W.Frag} (κ : KF K) : Cls K (He.ga K "Control") := (He.cls_ok (κ.fact 2 (f := .cls "Control") rfl))
theorem kexm_FeedError_FabricError {K : PySem.W.Frag} (κ : KF K) : PySem.W.exmOne K (.ref (He.ga K "FeedError")) (.ref (He.ga K "FabricError")) = some true := (He.exm_ok (κ.fact 22 (f := .exm "FeedError" "FabricError" true) rfl))
structure Zz (P : Program) (w : World) (K : PySem.W.Frag) (mg : Str → Option Value) (base : Heap) : Prop where
  X : K.In base
  G : base.Ns mainGlobals mg
  c : He.SaysD fa fn K
  k : KF K
  op : PySem.W.nsIn K cStatics "thirdparty.any" = some none
  pf : (P.main.file == FILE) = true
  pt : (P.main.scope.names.lookup ("super" : Str)).isSome = false
  er : ∀ (i : Nat) {d : ErrD}, es[i]? = some d → ErrK K d FILE
section
variable {P : Program} {w : World} {K : PySem.W.Frag} {mg : Str → Option Value} {base : Heap}
theorem Zz.fact (Z : Zz P w K mg base) (i : Nat) {f : He.Fa} (h : fa[i]? = some f := by rfl) : f.ok K = true := Z.c.fact i h
theorem Zz.err (Z : Zz P w K mg base) (i : Nat) {d : ErrD} (h : es[i]? = some d := by rfl) : ErrK K d FILE := Z.er i h
end
def g_kb_Control__init_3_start : List V → List V → List V := fun vs zs => vs ++ (zs)
/-! ### _is_entry: slots 0 entry 1 states 2 replies 3 following 4 reply -/
/-! ### a control -/
structure CD where
  cues : Int
  replies : Int
  rows : List (List (Int × Int))
  start : Int
def rowD (row : List (Int × Int)) : PyData := .tuple (row.map fun e => .tuple [.int e.1, .int e.2])
/-- at r stand the rows: a list or a tuple -/
def RowsB (b : Bool) (K : PySem.W.Frag) (B : Hp) (r : Addr) (rows : List (List (Int × Int))) : Prop := ∃ xs, SqB b K B r xs ∧ DpAll K B xs (rows.map rowD)
instance {b : Bool} {K : PySem.W.Frag} {r : Addr} {rows : List (List (Int × Int))} : Mono (fun B => RowsB b K B r rows) := ⟨fun B B' e ⟨xs, h, k⟩ => ⟨xs, Mono.up (F := fun B => SqB b K B r xs) B B' e h, dpAll_up e k⟩⟩
theorem dp_pairI {K : PySem.W.Frag} {B : Hp} {v : V} {i j : Int} (h : Dp K B v (.tuple [.int i, .int j])) : ∃ z, v = .ref z ∧ SqT K B z [.int i, .int j] := dp_pair h
/-- a row of a sequence of rows: its item, and its entries' items -/
theorem row_at {K : PySem.W.Frag} {B : Hp} {xs : List V} {rows : List (List (Int × Int))} (h : DpAll K B xs (rows.map rowD)) {i : Nat} {row : List (Int × Int)} (hi : rows[i]? = some row) : ∃ q ys, xs[i]? = some (.ref q) ∧ SqT K B q ys ∧ DpAll K B ys (row.map fun e => .tuple [.int e.1, .int e.2]) := by
  have e : (rows.map rowD)[i]? = some (rowD row) := by rw [List.getElem?_map, hi]; rfl
  obtain ⟨v, hv, dv⟩ := dpAll_get h e
  unfold rowD at dv
  cases dv with
  | tup h k => exact ⟨_, _, hv, h, k⟩
theorem ent_at {K : PySem.W.Frag} {B : Hp} {ys : List V} {row : List (Int × Int)} (h : DpAll K B ys (row.map fun e => .tuple [.int e.1, .int e.2])) {j : Nat} {e : Int × Int} (hj : row[j]? = some e) : ∃ z, ys[j]? = some (.ref z) ∧ SqT K B z [.int e.1, .int e.2] := by
  have q : (row.map fun e => PyData.tuple [.int e.1, .int e.2])[j]? = some (.tuple [.int e.1, .int e.2]) := by rw [List.getElem?_map, hj]; rfl
  obtain ⟨v, hv, dv⟩ := dpAll_get h q
  obtain ⟨z, rfl, hz⟩ := dp_pair dv
  exact ⟨z, hv, hz⟩
def entD (row : List (Int × Int)) : List PyData := row.map fun e => .tuple [.int e.1, .int e.2]
/-- the i-th row, its items as a fact -/
theorem S.row {K : PySem.W.Frag} {F : Hp → Prop} {cs : List (Addr × HO)} {H : Hp} {xs : List V} {rows : List (List (Int × Int))} (s : S F cs H) (hF : ∀ B, F B → DpAll K B xs (rows.map rowD)) {i : Nat} {row : List (Int × Int)} (hi : rows[i]? = some row) :
    ∃ q zs, xs[i]? = some (.ref q) ∧ S (fun B => (SqB false K B q zs ∧ DpAll K B zs (entD row)) ∧ F B) cs H := by
  have mF := s.mono
  obtain ⟨q, _, hq, _, _⟩ := row_at (hF _ s.fact) hi
  obtain ⟨zs, s⟩ := (s.imp (G := fun B => ∃ zs, (SqB false K B q zs ∧ DpAll K B zs (entD row)) ∧ F B) fun B f => by
    obtain ⟨q', zs, e, h1, h2⟩ := row_at (hF B f) hi
    rw [hq] at e
    cases e
    exact ⟨zs, ⟨h1, h2⟩, f⟩).exE
  exact ⟨q, zs, hq, s⟩
def entOk (states replies : Int) (e : Int × Int) : Prop := (0 ≤ e.1 ∧ e.1 < states) ∧ 0 ≤ e.2 ∧ e.2 < replies
/-- what a control must be -/
structure GoodC (cues replies : Int) (rows : List (List (Int × Int))) (start : Int) : Prop where
  c : 1 ≤ cues ∧ cues ≤ 16
  r : 1 ≤ replies ∧ replies ≤ 256
  s : 1 ≤ rows.length ∧ rows.length ≤ 64
  st : 0 ≤ start ∧ start < rows.length
  row : ∀ row ∈ rows, (row.length : Int) = cues ∧ ∀ e ∈ row, entOk rows.length replies e
def CD.good (c : CD) : Prop := GoodC c.cues c.replies c.rows c.start
def ctlF (c : CD) (r : Addr) : List (Str × V) := [("cues", .int c.cues), ("replies", .int c.replies), ("states", .int c.rows.length), ("start", .int c.start), ("rows", .ref r)]
/-- at x stands the control c -/
def Ctl (K : PySem.W.Frag) (B : Hp) (x : Addr) (c : CD) : Prop := ∃ r dx, B x = some (.ins (He.ga K "Control") dx (ctlF c r)) ∧ RowsB false K B r c.rows
instance {K : PySem.W.Frag} {x : Addr} {c : CD} : Mono (fun B => Ctl K B x c) := ⟨fun B B' e ⟨r, dx, h, k⟩ => ⟨r, dx, e _ _ h, Mono.up (F := fun B => RowsB false K B r c.rows) B B' e k⟩⟩
def sp_is_entry (K : PySem.W.Frag) : Sp := fun vs H Q _ => ∃ (z : Addr) (e : Int × Int) (states replies : Int), vs = [.ref z, .int states, .int replies] ∧ SqT K H z [.int e.1, .int e.2] ∧ entOk states replies e ∧ Q (.bl true) H
def t_is_entry (K : PySem.W.Frag) (E : XK) : TS := tSeq (tAsg (tVar 0) (gTup K 2 (gCons (gName 3) (gCons (gName 4) (gNil))))) (tRet (tAndV (tChain rLe1 rLt1 (tC (.int 0)) (tVar 3) (tVar 1)) (tChain rLe1 rLt1 (tC (.int 0)) (tVar 4) (tVar 2))))
theorem pure_is_entry {K : PySem.W.Frag} (κ : KF K) (vs : List V) (H : Hp) (Q : VK) (E : XK) (h : sp_is_entry K vs H Q E) : t_is_entry K E ⟨fun _ H' => Q .non H', Q, fun _ _ => False, fun _ _ => False⟩ (start [("entry" : Str), "states", "replies", "following", "reply"] vs) H := by
  unfold t_is_entry
  obtain ⟨z, e, states, replies, rfl, hz, ok, q⟩ := h
  obtain ⟨⟨o1, o2⟩, o3, o4⟩ := ok
  refine x_start (σ' := [some _, some _, some _, none, none]) ?_ rfl
  walk_at "sx"
  refine x_gtup hz rfl ?_
  walk_at "sx"
  refine x_yes (decide_eq_true o1) ?_
  walk_at "sx"
  refine x_yes (decide_eq_true o2) ?_
  walk_at "sx"
  refine x_yes (decide_eq_true o3) ?_
  walk_at "sx"
  rw [decide_eq_true o4]
  exact q
/-! ### Control.__init__: slots 0 self 1 cues 2 replies 3 rows 4 start 5 states 6 state 7 row 8 entry -/
def sp_Control__init (K : PySem.W.Frag) : Sp := fun vs H Q _ => ∃ (F : Hp → Prop) (cs : List (Addr × HO)) (k : Nat) (x dx l : Addr) (b : Bool) (c : CD), vs = [.ref x, .int c.cues, .int c.replies, .ref l, .int c.start] ∧ S F cs H ∧ cs[k]? = some (x, .ins (He.ga K "Control") dx []) ∧
  (∀ B, F B → RowsB b K B l c.rows) ∧ c.good ∧ ∀ r H', S (fun B => RowsB false K B r c.rows ∧ F B) (cs.set k (x, .ins (He.ga K "Control") dx (ctlF c r))) H' → Q .non H'
def t_Control__init (K : PySem.W.Frag) (E : XK) : TS := tSeq (tAsg (tCB (rLen1 K) (tCons (tVar 3) (tNil))) (gName 5)) (tSeq (tIfS (tOr (tNot (tTest (tChain rLe1 rLe1 (tC (.int 1)) (tVar 1) (tCon K (tVar 0) "MOST_CUES")))) (tNot (tTest (tChain rLe1 rLe1 (tC (.int 1)) (tVar 2) (tCon K (tVar 0) "MOST_REPLIES"))))) (tNever) (tNext)) (tSeq (tIfS (tOr (tNot (tTest (tChain rLe1 rLe1 (tC (.int 1)) (tVar 5) (tCon K (tVar 0) "MOST_STATES")))) (tNot (tTest (tChain rLe1 rLt1 (tC (.int 0)) (tVar 4) (tVar 5))))) (tNever) (tNext)) (tSeq (sFld K (tVar 0) (tVar 1) "cues") (tSeq (sFld K (tVar 0) (tVar 2) "replies") (tSeq (sFld K (tVar 0) (tVar 5) "states") (tSeq (sFld K (tVar 0) (tVar 4) "start") (tSeq (sFld K (tVar 0) (tCB (rTuple1 K) (tCons (tVar 3) (tNil))) "rows") (tFor (iEnum1 K (tCons (tFld K (tVar 0) "rows") (tNil))) (gTup K 2 (gCons (gName 6) (gCons (gName 7) (gNil)))) (tIfS (tOr (tTest (tOp (rNe1 K) (tCB (rLen1 K) (tCons (tVar 7) (tNil))) (tVar 1))) (tNot (tTr K (tCB (rAll1 K) (tCons (tLc (iSq K (tVar 7)) (gName 8) (tYes) (tCall (sp_is_entry K) [] E0 (tCons (tVar 8) (tCons (tVar 5) (tCons (tVar 2) (tNil))))) [8]) (tNil)))))) (tNever) (tNext))))))))))
theorem pure_Control__init {K : PySem.W.Frag} (κ : KF K) (vs : List V) (H : Hp) (Q : VK) (E : XK) (h : sp_Control__init K vs H Q E) : t_Control__init K E ⟨fun _ H' => Q .non H', Q, fun _ _ => False, fun _ _ => False⟩ (start [("self" : Str), "cues", "replies", "rows", "start", "states", "state", "row", "entry"] vs) H := by
  unfold t_Control__init
  obtain ⟨F, cs, k, x, dx, l, b, c, rfl, s, hk, hl, g, q⟩ := h
  refine x_start (σ' := [some _, some _, some _, some _, some _, none, none, none, none]) ?_ rfl
  have kc := kcls_Control κ
  have s := s.front hk
  obtain ⟨xs, hx, dk⟩ := hl _ s.fact
  have hlen := dpAll_len dk
  rw [List.length_map] at hlen
  walk_at "sx"
  refine x_lenL hx.or ?_
  rw [hlen]
  walk_at "sx"
  refine x_yes (decide_eq_true g.c.1) ?_
  walk_at "sx"
  refine x_c0 kc (kcon_Control_MOST_CUES κ) (s.at 0 rfl) rfl ?_
  walk_at "sx"
  refine x_ifn (fun h => absurd g.c.2 h) (fun _ => ?_)
  walk_at "sx"
  refine x_yes (decide_eq_true g.r.1) ?_
  walk_at "sx"
  refine x_c0 kc (kcon_Control_MOST_REPLIES κ) (s.at 0 rfl) rfl ?_
  walk_at "sx"
  refine x_ifn (fun h => absurd g.r.2 h) (fun _ => ?_)
  walk_at "sx"
  refine x_yes (decide_eq_true (by have := g.s; omega)) ?_
  walk_at "sx"
  refine x_c0 kc (kcon_Control_MOST_STATES κ) (s.at 0 rfl) rfl ?_
  walk_at "sx"
  refine x_ifn (fun h => absurd (by have := g.s; omega) h) (fun _ => ?_)
  walk_at "sx"
  refine x_yes (decide_eq_true g.st.1) ?_
  walk_at "sx"
  refine x_ifn (fun h => absurd g.st.2 h) (fun _ => ?_)
  walk_at "sx"
  refine x_sf s (kfld_Control_cues κ) (n := 0) rfl (by show 0 < 1000; decide) fun H1 s => ?_
  walk_at "sx"
  refine x_sf s (kfld_Control_replies κ) (n := 0) rfl (by show 1 < 1000; decide) fun H1 s => ?_
  walk_at "sx"
  refine x_sf s (kfld_Control_states κ) (n := 0) rfl (by show 2 < 1000; decide) fun H1 s => ?_
  walk_at "sx"
  refine x_sf s (kfld_Control_start κ) (n := 0) rfl (by show 3 < 1000; decide) fun H1 s => ?_
  walk_at "sx"
  have mF := s.mono
  obtain ⟨xs, s⟩ := (s.imp (G := fun B => ∃ xs, (SqB b K B l xs ∧ DpAll K B xs (c.rows.map rowD)) ∧ F B) fun B f => let ⟨xs, h1, h2⟩ := hl B f; ⟨xs, ⟨h1, h2⟩, f⟩).exE
  refine x_tupB (fun B f => f.1.1) s fun r H1 s => ?_
  have s := s.imp (G := fun B => (SqB false K B r xs ∧ DpAll K B xs (c.rows.map rowD)) ∧ F B) fun B f => ⟨⟨f.1, f.2.1.2⟩, f.2.2⟩
  walk_at "sx"
  refine x_sf s (kfld_Control_rows κ) (n := 0) rfl (by show 4 < 1000; decide) fun H1 s => ?_
  have s : S (fun B => (SqB false K B r xs ∧ DpAll K B xs (c.rows.map rowD)) ∧ F B) ((x, .ins (He.ga K "Control") dx (ctlF c r)) :: cs.eraseIdx k) H1 := s
  have xlen := dpAll_len s.fact.1.2
  rw [List.length_map] at xlen
  walk_at "sx"
  refine x_f (kfld_Control_rows κ) (s.at 0 rfl) rfl ?_
  walk_at "sx"
  refine x_forE s.fact.1.1 (fun i σ' H' => ∃ v w u, σ' = [some (.ref x), some (.int c.cues), some (.int c.replies), some (.ref l), some (.int c.start), some (.int c.rows.length), v, w, u] ∧
    S (fun B => (SqB false K B r xs ∧ DpAll K B xs (c.rows.map rowD)) ∧ F B) ((x, .ins (He.ga K "Control") dx (ctlF c r)) :: cs.eraseIdx k) H') ⟨_, _, _, rfl, s⟩ (fun i σ H h => by obtain ⟨_, _, _, _, s⟩ := h; exact s.fact.1.1) ?_ ?_
  · rintro i y σ' H' T H2 hy ⟨v, w, u, rfl, s⟩ hT rfl
    have s := (s.alloc (o := .tup [.int (i : Nat), y]) hT).drop1
    have hi : i < c.rows.length := by rw [← xlen]; exact (List.getElem?_eq_some_iff.mp hy).1
    have hrow : c.rows[i]? = some c.rows[i] := List.getElem?_eq_getElem hi
    obtain ⟨g1, g2⟩ := g.row _ (List.getElem_mem hi)
    generalize c.rows[i] = row at hrow g1 g2
    obtain ⟨p, zs, hp, s⟩ := s.row (fun B f => f.1.2) hrow
    rw [hy] at hp
    cases hp
    have zlen := dpAll_len s.fact.1.2
    unfold entD at zlen
    rw [List.length_map] at zlen
    walk_at "sx"
    refine x_lenL (.inr s.fact.1.1) ?_
    rw [zlen]
    walk_at "sx"
    refine x_ifn (fun h => absurd g1 h) (fun _ => ?_)
    walk_at "sx"
    refine x_lcFI (b := false) (fun _ => some (.bl true)) s (fun B f => f.1.1) zlen (by have := g.c; omega) ?_ ?_
    · intro D acc j y H Put Skip hy put skip s
      have hj : j < row.length := by rw [← zlen]; exact (List.getElem?_eq_some_iff.mp hy).1
      obtain ⟨z, hz, ez⟩ := ent_at s.fact.1.2 (List.getElem?_eq_getElem hj)
      rw [hy] at hz
      cases hz
      walk_at "wipe"
      walk_at "sx"
      refine ⟨rfl, ?_⟩
      walk_at "sx"
      exact ⟨z, _, _, _, rfl, ez, g2 _ (List.getElem_mem hj), put _ _ rfl s⟩
    · intro D H s
      have e : (List.range row.length).filterMap (fun _ => some (V.bl true)) = (List.replicate row.length true).map V.bl := by
        rw [List.map_replicate, fm_const]
      rw [e] at s
      refine x_all (sq_l (s.at 0 rfl)) ?_
      rw [show (List.replicate row.length true).all id = true by simp]
      walk_at "sx"
      exact ⟨_, _, _, rfl, (s.drop1).imp fun B f => f.2⟩
  · rintro σ' H' ⟨v, w, u, rfl, s⟩
    exact q r H' ((S.back hk s).imp fun B f => ⟨⟨xs, f.1⟩, f.2⟩)
/-- a control made -/
theorem x_ctl {K : PySem.W.Frag} {F : Hp → Prop} {cs : List (Addr × HO)} {H : Hp} {Q : VK} {l : Addr} {b : Bool} {c : CD} {gv : List V → List V} (hg : ∀ x, gv [.ref x] = [.ref x, .int c.cues, .int c.replies, .ref l, .int c.start]) (s : S F cs H) (hl : ∀ B, F B → RowsB b K B l c.rows) (g : c.good)
    (k : ∀ x H', S (fun B => Ctl K B x c ∧ F B) cs H' → Q (.ref x) H') : MakeW (He.ga K "Control") (sp_Control__init K) E0 gv H Q := by
  have mF := s.mono
  refine x_new2 s fun x dx H' s => ⟨F, _, 0, x, dx, l, b, c, hg x, s, rfl, hl, g, fun r H' s => ⟨rfl, k x H' ?_⟩⟩
  exact (S.freeze (G := fun B => Ctl K B x c ∧ F B) s fun B f e => ⟨⟨r, dx, e, f.1⟩, f.2⟩).drop1
section
variable {K : PySem.W.Frag} {H : Hp} {Q : VK} {x : Addr} {c : CD}
theorem x_cues (κ : KF K) (h : Ctl K H x c) (q : Q (.int c.cues) H) : FldW K "cues" (.ref x) H Q := by
  obtain ⟨r, dx, h, _⟩ := h
  exact x_f (kfld_Control_cues κ) h rfl q
theorem x_repl (κ : KF K) (h : Ctl K H x c) (q : Q (.int c.replies) H) : FldW K "replies" (.ref x) H Q := by
  obtain ⟨r, dx, h, _⟩ := h
  exact x_f (kfld_Control_replies κ) h rfl q
theorem x_states (κ : KF K) (h : Ctl K H x c) (q : Q (.int c.rows.length) H) : FldW K "states" (.ref x) H Q := by
  obtain ⟨r, dx, h, _⟩ := h
  exact x_f (kfld_Control_states κ) h rfl q
theorem x_strt (κ : KF K) (h : Ctl K H x c) (q : Q (.int c.start) H) : FldW K "start" (.ref x) H Q := by
  obtain ⟨r, dx, h, _⟩ := h
  exact x_f (kfld_Control_start κ) h rfl q
theorem x_rows (κ : KF K) (h : Ctl K H x c) (q : ∀ r, RowsB false K H r c.rows → Q (.ref r) H) : FldW K "rows" (.ref x) H Q := by
  obtain ⟨r, dx, h, hr⟩ := h
  exact x_f (kfld_Control_rows κ) h rfl (q r hr)
end
def nextI (rows : List (List (Int × Int))) (s c : Int) : Int := ((rows.getD s.toNat []).getD c.toNat (0, 0)).1
def repI (rows : List (List (Int × Int))) (s c : Int) : Int := ((rows.getD s.toNat []).getD c.toNat (0, 0)).2
theorem ent_get {cues replies start : Int} {rows : List (List (Int × Int))} (g : GoodC cues replies rows start) {s c : Int} (hs : 0 ≤ s ∧ s < rows.length) (hc : 0 ≤ c ∧ c < cues) :
    ∃ row e, rows[s.toNat]? = some row ∧ row[c.toNat]? = some e ∧ e.1 = nextI rows s c ∧ e.2 = repI rows s c ∧ entOk rows.length replies e := by
  have h1 : s.toNat < rows.length := by omega
  obtain ⟨g1, g2⟩ := g.row _ (List.getElem_mem h1)
  have h2 : c.toNat < rows[s.toNat].length := by omega
  refine ⟨_, _, List.getElem?_eq_getElem h1, List.getElem?_eq_getElem h2, ?_, ?_, g2 _ (List.getElem_mem h2)⟩
  · unfold nextI
    simp [h1, h2]
  · unfold repI
    simp [h1, h2]
theorem atI_int {xs : List V} {i : Int} {v : V} (h0 : 0 ≤ i) (h : xs[i.toNat]? = some v) : atI xs i = some v := by
  have e : i = ((i.toNat : Nat) : Int) := by omega
  rw [e]
  exact atI_nat h
/-- the entry at a state and a cue, of rows that stand in a list or a tuple -/
theorem x_ent {K : PySem.W.Frag} {H : Hp} {Q : VK} {b : Bool} {r : Addr} {cues replies start : Int} {rows : List (List (Int × Int))} (g : GoodC cues replies rows start) (hr : RowsB b K H r rows) {s c : Int} (hs : 0 ≤ s ∧ s < rows.length) (hc : 0 ≤ c ∧ c < cues)
    (q : ∀ z, SqT K H z [.int (nextI rows s c), .int (repI rows s c)] → Q (.ref z) H) : ∃ p, (∀ R : VK, R (.ref p) H → rIx1 K (.ref r) (.int s) H R) ∧ rIx1 K (.ref p) (.int c) H Q := by
  obtain ⟨xs, h, d⟩ := hr
  obtain ⟨row, e, e1, e2, e3, e4, _⟩ := ent_get g hs hc
  obtain ⟨p, ys, h1, h2, h3⟩ := row_at d e1
  obtain ⟨z, h4, h5⟩ := ent_at h3 e2
  rw [e3, e4] at h5
  refine ⟨p, fun R k => ?_, x_ixT h2 (atI_int hc.1 h4) (q z h5)⟩
  cases b
  · exact x_ixT h (atI_int hs.1 h1) k
  · exact x_ixL h (atI_int hs.1 h1) k
def EntAt (b : Bool) (K : PySem.W.Frag) (B : Hp) (r : Addr) (s c : Nat) (p z : Addr) (e1 e2 : Int) : Prop := (∃ xs, SqB b K B r xs ∧ xs[s]? = some (.ref p)) ∧ (∃ ys, SqT K B p ys ∧ ys[c]? = some (.ref z)) ∧ SqT K B z [.int e1, .int e2]
instance {b : Bool} {K : PySem.W.Frag} {r : Addr} {s c : Nat} {p z : Addr} {e1 e2 : Int} : Mono (fun B => EntAt b K B r s c p z e1 e2) := ⟨fun B B' e ⟨⟨xs, h1, h2⟩, ⟨ys, h3, h4⟩, h5⟩ => ⟨⟨xs, Mono.up (F := fun B => SqB b K B r xs) B B' e h1, h2⟩, ⟨ys, Same.seqT e h3, h4⟩, Same.seqT e h5⟩⟩
/-- an entry, as a fact -/
theorem S.ent {K : PySem.W.Frag} {F : Hp → Prop} {cs : List (Addr × HO)} {H : Hp} {b : Bool} {r : Addr} {cues replies start : Int} {rows : List (List (Int × Int))} (st : S F cs H) (hF : ∀ B, F B → RowsB b K B r rows) (g : GoodC cues replies rows start) {s c : Int} (hs : 0 ≤ s ∧ s < rows.length) (hc : 0 ≤ c ∧ c < cues) :
    ∃ p z, S (fun B => EntAt b K B r s.toNat c.toNat p z (nextI rows s c) (repI rows s c) ∧ F B) cs H := by
  have mF := st.mono
  obtain ⟨row, e, e1, e2, e3, e4, _⟩ := ent_get g hs hc
  obtain ⟨p, st⟩ := (st.imp (G := fun B => ∃ p, ∃ z, EntAt b K B r s.toNat c.toNat p z (nextI rows s c) (repI rows s c) ∧ F B) fun B f => by
    obtain ⟨xs, h, d⟩ := hF B f
    obtain ⟨p, ys, h1, h2, h3⟩ := row_at d e1
    obtain ⟨z, h4, h5⟩ := ent_at h3 e2
    rw [e3, e4] at h5
    exact ⟨p, z, ⟨⟨xs, h, h1⟩, ⟨ys, h2, h4⟩, h5⟩, f⟩).exE
  obtain ⟨z, st⟩ := st.exE
  exact ⟨p, z, st⟩
section
variable {b : Bool} {K : PySem.W.Frag} {H : Hp} {Q : VK} {r p z : Addr} {s c e1 e2 : Int} {m n : Nat}
theorem x_e1 (h : EntAt b K H r s.toNat n p z e1 e2) (h0 : 0 ≤ s) (k : Q (.ref p) H) : rIx1 K (.ref r) (.int s) H Q := by
  obtain ⟨⟨xs, h1, h2⟩, _, _⟩ := h
  cases b
  · exact x_ixT h1 (atI_int h0 h2) k
  · exact x_ixL h1 (atI_int h0 h2) k
theorem x_e2 (h : EntAt b K H r m c.toNat p z e1 e2) (h0 : 0 ≤ c) (k : Q (.ref z) H) : rIx1 K (.ref p) (.int c) H Q := by
  obtain ⟨_, ⟨ys, h1, h2⟩, _⟩ := h
  exact x_ixT h1 (atI_int h0 h2) k
end
/-! ### Control.entry: slots 0 self 1 state 2 cue -/
def sp_Control_entry (K : PySem.W.Frag) : Sp := fun vs H Q _ => ∃ (x : Addr) (cd : CD) (s c : Int), vs = [.ref x, .int s, .int c] ∧ Ctl K H x cd ∧ cd.good ∧ (0 ≤ s ∧ s < cd.rows.length) ∧ (0 ≤ c ∧ c < cd.cues) ∧
  ∀ z, SqT K H z [.int (nextI cd.rows s c), .int (repI cd.rows s c)] → Q (.ref z) H
def t_Control_entry (K : PySem.W.Frag) (E : XK) : TS := tRet (tOp (rIx1 K) (tOp (rIx1 K) (tFld K (tVar 0) "rows") (tVar 1)) (tVar 2))
theorem pure_Control_entry {K : PySem.W.Frag} (κ : KF K) (vs : List V) (H : Hp) (Q : VK) (E : XK) (h : sp_Control_entry K vs H Q E) : t_Control_entry K E ⟨fun _ H' => Q .non H', Q, fun _ _ => False, fun _ _ => False⟩ (start [("self" : Str), "state", "cue"] vs) H := by
  unfold t_Control_entry
  obtain ⟨x, cd, s, c, rfl, hx, g, hs, hc, q⟩ := h
  refine x_start (σ' := [some _, some _, some _]) ?_ rfl
  walk_at "sx"
  refine x_rows κ hx fun r hr => ?_
  walk_at "sx"
  obtain ⟨p, h1, h2⟩ := x_ent g hr hs hc q
  refine h1 _ ?_
  walk_at "sx"
  exact h2
/-! ### check_feed: slots 0 cues 1 feed 2 index 3 cue -/
/-! ### feeds -/
def FeedOk (cues : Int) (ns : List Int) : Prop := ∀ n ∈ ns, 0 ≤ n ∧ n < cues
/-- the first item that is no cue -/
def BadAt (cues : Int) (ns : List Int) (i : Nat) : Prop := (∃ n, ns[i]? = some n ∧ ¬ (0 ≤ n ∧ n < cues)) ∧ ∀ j, j < i → ∀ n, ns[j]? = some n → 0 ≤ n ∧ n < cues
/-- what is wanted of a FeedError of the index i -/
def FErr (K : PySem.W.Frag) (E : XK) (F : Hp → Prop) (cs : List (Addr × HO)) (i : Nat) : Prop := ∀ H dd, S F ((dd, .xd [("index", .int (i : Nat))]) :: cs) H → E (.ref (He.ga K "FeedError")) (some dd) H
theorem bad_uniq {cues : Int} {ns : List Int} {i j : Nat} (h : BadAt cues ns i) (k : BadAt cues ns j) : i = j := by
  obtain ⟨⟨n, h1, h2⟩, h3⟩ := h
  obtain ⟨⟨m, k1, k2⟩, k3⟩ := k
  rcases Nat.lt_trichotomy i j with z | z | z
  · exact absurd (k3 i z n h1) h2
  · exact z
  · exact absurd (h3 j z m k1) k2
theorem ok_not_bad {cues : Int} {ns : List Int} {i : Nat} (h : FeedOk cues ns) (k : BadAt cues ns i) : False := by
  obtain ⟨⟨n, h1, h2⟩, _⟩ := k
  exact h2 (h n (mem_of_get h1))
/-- the state behind j cues, the reply to the next one -/
def staI (rows : List (List (Int × Int))) (s0 : Int) (ns : List Int) (j : Nat) : Int := (ns.take j).foldl (nextI rows) s0
def repS (rows : List (List (Int × Int))) (s0 : Int) (ns : List Int) (j : Nat) : Int := repI rows (staI rows s0 ns j) (ns.getD j 0)
theorem staI_succ {rows : List (List (Int × Int))} {s0 : Int} {ns : List Int} {i : Nat} {n : Int} (h : ns[i]? = some n) : staI rows s0 ns (i + 1) = nextI rows (staI rows s0 ns i) n := by
  unfold staI
  rw [List.take_add_one, h, List.foldl_append]
  rfl
theorem repS_at {rows : List (List (Int × Int))} {s0 : Int} {ns : List Int} {i : Nat} {n : Int} (h : ns[i]? = some n) : repS rows s0 ns i = repI rows (staI rows s0 ns i) n := by
  unfold repS
  rw [List.getD_eq_getElem?_getD, h]
  rfl
theorem staI_ok {cues replies start : Int} {rows : List (List (Int × Int))} (g : GoodC cues replies rows start) {s0 : Int} {ns : List Int} (hf : FeedOk cues ns) (h0 : 0 ≤ s0 ∧ s0 < rows.length) : ∀ j, 0 ≤ staI rows s0 ns j ∧ staI rows s0 ns j < rows.length
  | 0 => h0
  | j + 1 => by
    have ih := staI_ok g hf h0 j
    cases h : ns[j]? with
    | none =>
      have : ns.take (j + 1) = ns.take j := by
        have := List.getElem?_eq_none_iff.mp h
        rw [List.take_of_length_le (by omega), List.take_of_length_le this]
      unfold staI at ih ⊢
      rw [this]
      exact ih
    | some n =>
      obtain ⟨row, e, _, _, e3, _, e5⟩ := ent_get g ih (hf n (mem_of_get h))
      rw [staI_succ h, ← e3]
      exact e5.1
theorem ints_get {ns : List Int} {i : Nat} {x : V} (h : (ns.map V.int)[i]? = some x) : ∃ n, ns[i]? = some n ∧ x = .int n := by
  rw [List.getElem?_map] at h
  obtain ⟨n, h1, h2⟩ := Option.map_eq_some_iff.mp h
  exact ⟨n, h1, h2.symm⟩
theorem x_entry {K : PySem.W.Frag} {H : Hp} {x : Addr} {c : CD} {R : Prop} (h : Ctl K H x c) (q : R) : MethW (He.ga K "Control") "entry" (.ref x) H R := by
  obtain ⟨r, dx, h, _⟩ := h
  exact x_m h rfl q
theorem at_last {ys : List V} {v : V} : atI (ys ++ [v]) (-1) = some v := by
  have e : ixN (ys ++ [v]).length (-1) = some ys.length := by
    unfold ixN
    rw [if_neg (by decide), if_pos (by rw [List.length_append, List.length_singleton]; omega)]
    rw [List.length_append, List.length_singleton]
    congr 1
    omega
  unfold atI
  rw [e]
  simp
def repL (rows : List (List (Int × Int))) (s0 : Int) (ns : List Int) (m : Nat) : List V := (List.range m).map fun j => V.int (repS rows s0 ns j)
def staL (rows : List (List (Int × Int))) (s0 : Int) (ns : List Int) (m : Nat) : List V := (List.range m).map fun j => V.int (staI rows s0 ns j)
theorem repL_succ {rows : List (List (Int × Int))} {s0 : Int} {ns : List Int} {i : Nat} {n : Int} (h : ns[i]? = some n) : repL rows s0 ns (i + 1) = repL rows s0 ns i ++ [.int (repI rows (staI rows s0 ns i) n)] := by
  unfold repL
  rw [List.range_succ, List.map_append, List.map_cons, List.map_nil, repS_at h]
theorem staL_succ {rows : List (List (Int × Int))} {s0 : Int} {ns : List Int} {i : Nat} : staL rows s0 ns (i + 1) = staL rows s0 ns i ++ [.int (staI rows s0 ns i)] := by
  unfold staL
  rw [List.range_succ, List.map_append, List.map_cons, List.map_nil]
theorem repL_len {rows : List (List (Int × Int))} {s0 : Int} {ns : List Int} {m : Nat} : (repL rows s0 ns m).length = m := by unfold repL; simp
theorem staL_len {rows : List (List (Int × Int))} {s0 : Int} {ns : List Int} {m : Nat} : (staL rows s0 ns m).length = m := by unfold staL; simp
/-- a control and a feed that stand where they are -/
def CtlF (K : PySem.W.Frag) (F : Hp → Prop) (x f : Addr) (b : Bool) (c : CD) (ns : List Int) : Prop := (∀ B, F B → Ctl K B x c ∧ SqB b K B f (ns.map V.int)) ∧ c.good ∧ ns.length < 10000000
def sp_check_feed (K : PySem.W.Frag) : Sp := fun vs H Q E => ∃ (F : Hp → Prop) (cs : List (Addr × HO)) (f : Addr) (b : Bool) (cues : Int) (ns : List Int), vs = [.int cues, .ref f] ∧ S F cs H ∧ (∀ B, F B → SqB b K B f (ns.map V.int)) ∧
  (FeedOk cues ns → ∀ H', S F cs H' → Q .non H') ∧ ∀ i, BadAt cues ns i → FErr K E F cs i
def t_check_feed (K : PySem.W.Frag) (E : XK) : TS := tFor (iEnum1 K (tCons (tVar 1) (tNil))) (gTup K 2 (gCons (gName 2) (gCons (gName 3) (gNil)))) (tIfS (tNot (tTest (tChain rLe1 rLt1 (tC (.int 0)) (tVar 3) (tVar 0)))) (tRaiseM (He.ga K "FeedError") (sp_err ed_FeedError K) [] (tCons (tVar 2) (tNil)) (fun cls d _ H => E cls d H)) (tNext))
theorem pure_check_feed {K : PySem.W.Frag} (κ : KF K) (vs : List V) (H : Hp) (Q : VK) (E : XK) (h : sp_check_feed K vs H Q E) : t_check_feed K E ⟨fun _ H' => Q .non H', Q, fun _ _ => False, fun _ _ => False⟩ (start [("cues" : Str), "feed", "index", "cue"] vs) H := by
  unfold t_check_feed
  obtain ⟨F, cs, f, b, cues, ns, rfl, s, hf, ok, bad⟩ := h
  refine x_start (σ' := [some _, some _, none, none]) ?_ rfl
  have get : ∀ {i : Nat} {x : V}, (ns.map V.int)[i]? = some x → ∃ n, ns[i]? = some n ∧ x = .int n := fun {i x} h => by
    rw [List.getElem?_map] at h
    obtain ⟨n, h1, h2⟩ := Option.map_eq_some_iff.mp h
    exact ⟨n, h1, h2.symm⟩
  walk_at "sx"
  refine x_forE (hf _ s.fact) (fun i σ' H' => ∃ v w, σ' = [some (.int cues), some (.ref f), v, w] ∧ (∀ j, j < i → ∀ n, ns[j]? = some n → 0 ≤ n ∧ n < cues) ∧ S F cs H') ⟨_, _, rfl, fun j hj => absurd hj (Nat.not_lt_zero j), s⟩ (fun i σ H h => by obtain ⟨_, _, _, _, s⟩ := h; exact hf _ s.fact) ?_ ?_
  · rintro i x σ' H' T H2 hx ⟨v, w, rfl, hj, s⟩ hT rfl
    have s := (s.alloc (o := .tup [.int (i : Nat), x]) hT).drop1
    obtain ⟨n, hn, rfl⟩ := get hx
    have isbad : ¬ (0 ≤ n ∧ n < cues) → BadAt cues ns i := fun h => ⟨⟨n, hn, h⟩, hj⟩
    have err : ¬ (0 ≤ n ∧ n < cues) → ∀ (σ : L2.St) (H2 : Hp), S F cs H2 → RaiseW (He.ga K "FeedError") (sp_err ed_FeedError K) (fun cls d _ H => E cls d H) σ [.int (i : Nat)] H2 := fun h σ H2 s =>
      x_rz (d := ed_FeedError) rfl fun dd hd => bad i (isbad h) _ dd (s.alloc hd)
    walk_at "sx"
    refine x_if (fun h1 => ?_) (fun h1 => ?_)
    · walk_at "sx"
      refine x_ifn (fun h2 => ?_) (fun h2 => ?_)
      · walk_at "sx"
        exact err (fun z => h2 z.2) _ _ s
      · walk_at "sx"
        refine ⟨_, _, rfl, fun j hj2 m hm => ?_, s⟩
        rcases Nat.lt_or_ge j i with z | z
        · exact hj j z m hm
        · obtain rfl : j = i := by omega
          rw [hn] at hm
          cases hm
          exact ⟨h1, h2⟩
    · walk_at "sx"
      exact err (fun z => h1 z.1) _ _ s
  · rintro σ' H' ⟨v, w, rfl, hj, s⟩
    refine ok (fun n hn => ?_) _ s
    obtain ⟨j, hj2⟩ := List.mem_iff_getElem?.mp hn
    have : j < (ns.map V.int).length := by rw [List.length_map]; exact (List.getElem?_eq_some_iff.mp hj2).1
    exact hj j this n hj2
/-! ### replies_from: slots 0 control 1 state 2 feed 3 replies 4 current 5 cue 6 reply -/
def sp_replies_from (K : PySem.W.Frag) : Sp := fun vs H Q _ => ∃ (F : Hp → Prop) (cs : List (Addr × HO)) (x f : Addr) (b : Bool) (c : CD) (ns : List Int) (st : Int), vs = [.ref x, .int st, .ref f] ∧ S F cs H ∧ CtlF K F x f b c ns ∧ FeedOk c.cues ns ∧ (0 ≤ st ∧ st < c.rows.length) ∧
  ∀ p H', S F ((p, .lst (repL c.rows st ns ns.length)) :: cs) H' → Q (.ref p) H'
def t_replies_from (K : PySem.W.Frag) (E : XK) : TS := tSeq (tAsg (tLst (tNil)) (gName 3)) (tSeq (tAsg (tVar 1) (gName 4)) (tSeq (tFor (iSq K (tVar 2)) (gName 5) (tSeq (tAsg (tMeth (He.ga K "Control") "entry" (sp_Control_entry K) [] E0 (tVar 0) (tCons (tVar 4) (tCons (tVar 5) (tNil)))) (gTup K 2 (gCons (gName 4) (gCons (gName 6) (gNil))))) (tDrop (tBM K "list" rAppend (tVar 3) (tCons (tVar 6) (tNil)))))) (tRet (tVar 3))))
theorem pure_replies_from {K : PySem.W.Frag} (κ : KF K) (vs : List V) (H : Hp) (Q : VK) (E : XK) (h : sp_replies_from K vs H Q E) : t_replies_from K E ⟨fun _ H' => Q .non H', Q, fun _ _ => False, fun _ _ => False⟩ (start [("control" : Str), "state", "feed", "replies", "current", "cue", "reply"] vs) H := by
  unfold t_replies_from
  obtain ⟨F, cs, x, f, b, c, ns, st, rfl, s, ⟨hF, g, hn⟩, ok, hs, q⟩ := h
  refine x_start (σ' := [some _, some _, some _, none, none, none, none]) ?_ rfl
  have sok := staI_ok g ok hs
  walk_at "sx"
  refine x_newL (by simp) s fun l H1 s => ?_
  walk_at "sx"
  refine x_forB (hF _ s.fact).2 (fun i σ' H' => ∃ v w, σ' = [some (.ref x), some (.int st), some (.ref f), some (.ref l), some (.int (staI c.rows st ns i)), v, w] ∧ S F ((l, .lst (repL c.rows st ns i)) :: cs) H') ⟨_, _, rfl, s⟩ (fun i σ H h => by obtain ⟨_, _, _, s⟩ := h; exact (hF _ s.fact).2) ?_ ?_
  · rintro i y σ' H' hy ⟨v, w, rfl, s⟩
    obtain ⟨n, hz, rfl⟩ := ints_get hy
    have hi := (List.getElem?_eq_some_iff.mp hz).1
    walk_at "sx"
    refine x_entry (hF _ s.fact).1 ?_
    walk_at "sx"
    refine ⟨x, c, _, n, rfl, (hF _ s.fact).1, g, sok i, ok n (mem_of_get hz), fun z hp => ?_⟩
    refine x_gtup hp rfl ?_
    walk_at "sx"
    refine x_append s (k := 0) rfl (by rw [repL_len]; exact big_sz (by omega)) fun H2 s => ?_
    walk_at "sx"
    exact ⟨_, _, by rw [staI_succ hz], by rw [repL_succ hz]; exact s⟩
  · rintro σ' H' ⟨v, w, rfl, s⟩
    rw [List.length_map] at s
    walk_at "sx"
    exact q _ _ s
/-! ### replies_to: slots 0 control 1 feed -/
def sp_replies_to (K : PySem.W.Frag) : Sp := fun vs H Q E => ∃ (F : Hp → Prop) (cs : List (Addr × HO)) (x f : Addr) (b : Bool) (c : CD) (ns : List Int), vs = [.ref x, .ref f] ∧ S F cs H ∧ CtlF K F x f b c ns ∧
  (FeedOk c.cues ns → ∀ p H', S F ((p, .lst (repL c.rows c.start ns ns.length)) :: cs) H' → Q (.ref p) H') ∧ ∀ i, BadAt c.cues ns i → FErr K E F cs i
def t_replies_to (K : PySem.W.Frag) (E : XK) : TS := tSeq (tDrop (tCall (sp_check_feed K) [] E (tCons (tFld K (tVar 0) "cues") (tCons (tVar 1) (tNil))))) (tRet (tCall (sp_replies_from K) [] E0 (tCons (tVar 0) (tCons (tFld K (tVar 0) "start") (tCons (tVar 1) (tNil))))))
theorem pure_replies_to {K : PySem.W.Frag} (κ : KF K) (vs : List V) (H : Hp) (Q : VK) (E : XK) (h : sp_replies_to K vs H Q E) : t_replies_to K E ⟨fun _ H' => Q .non H', Q, fun _ _ => False, fun _ _ => False⟩ (start [("control" : Str), "feed"] vs) H := by
  unfold t_replies_to
  obtain ⟨F, cs, x, f, b, c, ns, rfl, s, hF, q, bad⟩ := h
  have hF' := hF
  obtain ⟨hF, g, hn⟩ := hF
  refine x_start (σ' := [some _, some _]) ?_ rfl
  walk_at "sx"
  refine x_cues κ (hF _ s.fact).1 ?_
  walk_at "sx"
  refine ⟨F, cs, f, b, _, ns, rfl, s, fun B h => (hF B h).2, fun ok H1 s => ?_, bad⟩
  walk_at "sx"
  refine x_strt κ (hF _ s.fact).1 ?_
  walk_at "sx"
  exact ⟨F, cs, x, f, b, c, ns, _, rfl, s, hF', ok, g.st, q ok⟩
/-! ### visits: slots 0 control 1 feed 2 states 3 cue -/
def sp_visits (K : PySem.W.Frag) : Sp := fun vs H Q E => ∃ (F : Hp → Prop) (cs : List (Addr × HO)) (x f : Addr) (b : Bool) (c : CD) (ns : List Int), vs = [.ref x, .ref f] ∧ S F cs H ∧ CtlF K F x f b c ns ∧
  (FeedOk c.cues ns → ∀ p H', S F ((p, .lst (staL c.rows c.start ns (ns.length + 1))) :: cs) H' → Q (.ref p) H') ∧ ∀ i, BadAt c.cues ns i → FErr K E F cs i
def t_visits (K : PySem.W.Frag) (E : XK) : TS := tSeq (tDrop (tCall (sp_check_feed K) [] E (tCons (tFld K (tVar 0) "cues") (tCons (tVar 1) (tNil))))) (tSeq (tAsg (tLst (tCons (tFld K (tVar 0) "start") (tNil))) (gName 2)) (tSeq (tFor (iSq K (tVar 1)) (gName 3) (tDrop (tBM K "list" rAppend (tVar 2) (tCons (tOp (rIx1 K) (tMeth (He.ga K "Control") "entry" (sp_Control_entry K) [] E0 (tVar 0) (tCons (tOp (rIx1 K) (tVar 2) (tUn rNeg1 (tC (.int 1)))) (tCons (tVar 3) (tNil)))) (tC (.int 0))) (tNil))))) (tRet (tVar 2))))
theorem pure_visits {K : PySem.W.Frag} (κ : KF K) (vs : List V) (H : Hp) (Q : VK) (E : XK) (h : sp_visits K vs H Q E) : t_visits K E ⟨fun _ H' => Q .non H', Q, fun _ _ => False, fun _ _ => False⟩ (start [("control" : Str), "feed", "states", "cue"] vs) H := by
  unfold t_visits
  obtain ⟨F, cs, x, f, b, c, ns, rfl, s, hF, q, bad⟩ := h
  obtain ⟨hF, g, hn⟩ := hF
  refine x_start (σ' := [some _, some _, none, none]) ?_ rfl
  walk_at "sx"
  refine x_cues κ (hF _ s.fact).1 ?_
  walk_at "sx"
  refine ⟨F, cs, f, b, _, ns, rfl, s, fun B h => (hF B h).2, fun ok H1 s => ?_, bad⟩
  have sok := staI_ok g ok g.st
  walk_at "sx"
  refine x_strt κ (hF _ s.fact).1 ?_
  walk_at "sx"
  refine x_newL (by simp) s fun l H1 s => ?_
  walk_at "sx"
  refine x_forB (hF _ s.fact).2 (fun i σ' H' => ∃ v, σ' = [some (.ref x), some (.ref f), some (.ref l), v] ∧ S F ((l, .lst (staL c.rows c.start ns (i + 1))) :: cs) H') ⟨_, rfl, s⟩ (fun i σ H h => by obtain ⟨_, _, s⟩ := h; exact (hF _ s.fact).2) ?_ ?_
  · rintro i y σ' H' hy ⟨v, rfl, s⟩
    obtain ⟨n, hz, rfl⟩ := ints_get hy
    have hi := (List.getElem?_eq_some_iff.mp hz).1
    walk_at "sx"
    refine x_entry (hF _ s.fact).1 ?_
    walk_at "sx"
    rw [staL_succ] at s
    refine x_ixC (xs := staL c.rows c.start ns i ++ [.int (staI c.rows c.start ns i)]) s (by walk_at "m") at_last ?_
    walk_at "sx"
    refine ⟨x, c, _, n, rfl, (hF _ s.fact).1, g, sok i, ok n (mem_of_get hz), fun z hp => ?_⟩
    walk_at "sx"
    refine x_ixT hp rfl ?_
    walk_at "sx"
    refine x_append s (k := 0) rfl (by rw [List.length_append, staL_len]; exact big_sz (by show i + 1 < _; omega)) fun H2 s => ?_
    walk_at "sx"
    exact ⟨_, rfl, by rw [staL_succ, staL_succ, staI_succ hz]; exact s⟩
  · rintro σ' H' ⟨v, rfl, s⟩
    rw [List.length_map] at s
    walk_at "sx"
    exact q ok _ _ s
/-! ### state_after: slots 0 control 1 feed -/
def sp_state_after (K : PySem.W.Frag) : Sp := fun vs H Q E => ∃ (F : Hp → Prop) (cs : List (Addr × HO)) (x f : Addr) (b : Bool) (c : CD) (ns : List Int), vs = [.ref x, .ref f] ∧ S F cs H ∧ CtlF K F x f b c ns ∧
  (FeedOk c.cues ns → ∀ H', S F cs H' → Q (.int (staI c.rows c.start ns ns.length)) H') ∧ ∀ i, BadAt c.cues ns i → FErr K E F cs i
def t_state_after (K : PySem.W.Frag) (E : XK) : TS := tRet (tOp (rIx1 K) (tCall (sp_visits K) [] E (tCons (tVar 0) (tCons (tVar 1) (tNil)))) (tUn rNeg1 (tC (.int 1))))
theorem pure_state_after {K : PySem.W.Frag} (κ : KF K) (vs : List V) (H : Hp) (Q : VK) (E : XK) (h : sp_state_after K vs H Q E) : t_state_after K E ⟨fun _ H' => Q .non H', Q, fun _ _ => False, fun _ _ => False⟩ (start [("control" : Str), "feed"] vs) H := by
  unfold t_state_after
  obtain ⟨F, cs, x, f, b, c, ns, rfl, s, hF, q, bad⟩ := h
  refine x_start (σ' := [some _, some _]) ?_ rfl
  walk_at "sx"
  refine ⟨F, cs, x, f, b, c, ns, rfl, s, hF, fun ok p H1 s => ?_, bad⟩
  walk_at "sx"
  rw [staL_succ] at s
  refine x_ixC s (by walk_at "m") at_last ?_
  walk_at "sx"
  exact q ok _ s.drop1
/-! ### Control.started: slots 0 self 1 state -/
def sp_Control_started (K : PySem.W.Frag) : Sp := fun vs H Q _ => ∃ (F : Hp → Prop) (cs : List (Addr × HO)) (x : Addr) (c : CD) (st : Int), vs = [.ref x, .int st] ∧ S F cs H ∧ (∀ B, F B → Ctl K B x c) ∧ c.good ∧ (0 ≤ st ∧ st < c.rows.length) ∧
  ∀ x' H', S (fun B => Ctl K B x' { c with start := st } ∧ F B) cs H' → Q (.ref x') H'
def t_Control_started (K : PySem.W.Frag) (E : XK) : TS := tSeq (tIfS (tNot (tTest (tChain rLe1 rLt1 (tC (.int 0)) (tVar 1) (tFld K (tVar 0) "states")))) (tNever) (tNext)) (tRet (tMakeK (He.ga K "Control") 3 1 (sp_Control__init K) g_kb_Control__init_3_start E0 (tCons (tFld K (tVar 0) "cues") (tCons (tFld K (tVar 0) "replies") (tCons (tFld K (tVar 0) "rows") (tNil)))) (tCons (tVar 1) (tNil))))
theorem pure_Control_started {K : PySem.W.Frag} (κ : KF K) (vs : List V) (H : Hp) (Q : VK) (E : XK) (h : sp_Control_started K vs H Q E) : t_Control_started K E ⟨fun _ H' => Q .non H', Q, fun _ _ => False, fun _ _ => False⟩ (start [("self" : Str), "state"] vs) H := by
  unfold t_Control_started
  obtain ⟨F, cs, x, c, st, rfl, s, hx, g, hs, q⟩ := h
  refine x_start (σ' := [some _, some _]) ?_ rfl
  have mF := s.mono
  walk_at "sx"
  refine x_yes (decide_eq_true hs.1) ?_
  walk_at "sx"
  refine x_states κ (hx _ s.fact) ?_
  walk_at "sx"
  refine x_ifn (fun h => absurd hs.2 h) (fun _ => ?_)
  walk_at "sx"
  refine x_cues κ (hx _ s.fact) ?_
  walk_at "sx"
  refine x_repl κ (hx _ s.fact) ?_
  walk_at "sx"
  obtain ⟨r, s⟩ := (s.imp (G := fun B => ∃ r, (∃ dx, B x = some (.ins (He.ga K "Control") dx (ctlF c r))) ∧ RowsB false K B r c.rows ∧ F B) fun B f => let ⟨r, dx, h1, h2⟩ := hx B f; ⟨r, ⟨dx, h1⟩, h2, f⟩).exE
  obtain ⟨⟨dx, hx2⟩, _, _⟩ := s.fact
  refine x_f (kfld_Control_rows κ) hx2 rfl ?_
  walk_at "sx"
  refine ⟨rfl, rfl, ?_⟩
  exact x_ctl (b := false) (c := { c with start := st }) (fun _ => rfl) s (fun B f => f.2.1) ⟨g.c, g.r, g.s, hs, g.row⟩ fun x' H' s => q x' H' (s.imp fun B f => ⟨f.1, f.2.2.2⟩)
/-! ### _law_pool: slots 0 script 1 place 2 cell -/
theorem atI_emod {ns : List Int} {i : Int} (h : ns.length ≠ 0) : ∃ c : Int, atI (ns.map V.int) (i % ((ns.map V.int).length : Int)) = some (.int c) := by
  have h0 : (0 : Int) < ((ns.map V.int).length : Int) := by rw [List.length_map]; omega
  have h1 := Int.emod_nonneg i (Int.ne_of_gt h0)
  have h2 := Int.emod_lt_of_pos i h0
  obtain ⟨k, hk⟩ : ∃ k : Nat, i % ((ns.map V.int).length : Int) = k := ⟨_, (Int.toNat_of_nonneg h1).symm⟩
  rw [hk] at h2 ⊢
  have h3 : k < ns.length := by rw [List.length_map] at h2; omega
  exact ⟨ns[k], atI_nat (by simp [h3])⟩
/-! ### the pool and the draws of a law -/
def pl (a b c d : Int) : HO := .lst [.int a, .int b, .int c, .int d]
def sp_law_pool (K : PySem.W.Frag) : Sp := fun vs H Q _ => ∃ (a : Addr) (ns : List Int) (place : Int), vs = [.ref a, .int place] ∧ SqL K H a (ns.map V.int) ∧ 0 ≤ place ∧
  ∀ p H' x y z u, H p = none → Same H H' → H' p = some (pl x y z u) → Q (.ref p) H'
def t_law_pool (K : PySem.W.Frag) (E : XK) : TS := tSeq (tIfS (tTest (tOp (rEq1 K) (tCB (rLen1 K) (tCons (tVar 0) (tNil))) (tC (.int 0)))) (tRet (tLst (tCons (tC (.int 0)) (tCons (tC (.int 0)) (tCons (tC (.int 0)) (tCons (tC (.int 0)) (tNil))))))) (tNext)) (tSeq (tAsg (tCB rAbs1 (tCons (tOp (rIx1 K) (tVar 0) (tOp rMod1 (tCB rInt1 (tCons (tVar 1) (tNil))) (tCB (rLen1 K) (tCons (tVar 0) (tNil))))) (tNil))) (gName 2)) (tSeq (tIfS (tAnd (tTest (tOp rLt1 (tVar 1) (tCB (rLen1 K) (tCons (tVar 0) (tNil))))) (tTest (tOp rGe1 (tVar 2) (tOp rPow1 (tC (.int 10)) (tC (.int 18)))))) (tRet (tLst (tCons (tC (.int 1)) (tCons (tVar 2) (tCons (tOp rMod1 (tCB rInt1 (tCons (tVar 2) (tNil))) (tC (.int 2147483647))) (tCons (tC (.int 0)) (tNil))))))) (tNext)) (tRet (tLst (tCons (tC (.int 2)) (tCons (tC (.int 0)) (tCons (tOp rMod1 (tCB rInt1 (tCons (tOp (rAdd1 K) (tVar 2) (tOp (rMul1 K) (tC (.int 7919)) (tVar 1))) (tNil))) (tC (.int 2147483647))) (tCons (tC (.int 0)) (tNil)))))))))
theorem pure_law_pool {K : PySem.W.Frag} (κ : KF K) (vs : List V) (H : Hp) (Q : VK) (E : XK) (h : sp_law_pool K vs H Q E) : t_law_pool K E ⟨fun _ H' => Q .non H', Q, fun _ _ => False, fun _ _ => False⟩ (start [("script" : Str), "place", "cell"] vs) H := by
  unfold t_law_pool
  obtain ⟨a, ns, place, rfl, hs, hp, k⟩ := h
  refine x_start (σ' := [some _, some _, none]) ?_ rfl
  have fin : ∀ x y z u : Int, ∀ p, H p = none → Q (.ref p) (upd H p (.lst [.int x, .int y, .int z, .int u])) := fun x y z u p hp => k p _ x y z u hp (same_upd hp) upd_same
  walk_at "sx"
  refine x_lenL (.inl hs) ?_
  walk_at "sx"
  refine x_if (fun h0 => ?_) (fun h0 => ?_)
  · walk_at "sx"
    exact ⟨by decide, fin _ _ _ _⟩
  · have hn : ns.length ≠ 0 := by rw [List.length_map] at h0; omega
    obtain ⟨c, hc⟩ := atI_emod (ns := ns) (i := place) hn
    walk_at "sx"
    refine x_lenL (.inl hs) ?_
    walk_at "sx"
    refine x_ixL hs hc ?_
    walk_at "sx"
    refine x_lenL (.inl hs) ?_
    walk_at "sx"
    refine x_if (fun h1 => ?_) (fun h1 => ?_)
    · walk_at "sx"
      refine x_if (fun h2 => ?_) (fun h2 => ?_)
      · walk_at "sx"
        exact ⟨by show 4 ≤ sizeLine; decide, fin _ _ _ _⟩
      · walk_at "sx"
        exact ⟨by show 4 ≤ sizeLine; decide, fin _ _ _ _⟩
    · walk_at "sx"
      exact ⟨by show 4 ≤ sizeLine; decide, fin _ _ _ _⟩
/-! ### _law_draw: slots 0 pool 1 many 2 got 3 x -/
/-- a draw: some number below many, another pool -/
def sp_law_draw (K : PySem.W.Frag) : Sp := fun vs H Q _ => ∃ (F : Hp → Prop) (cs : List (Addr × HO)) (k : Nat) (l : Addr) (a b c d many : Int), vs = [.ref l, .int many] ∧ S F cs H ∧ cs[k]? = some (l, pl a b c d) ∧ 0 < many ∧ many < 2 ^ 8000 ∧
  ∀ H' x y z u r, 0 ≤ r → r < many → S F (cs.set k (l, pl x y z u)) H' → Q (.int r) H'
def t_law_draw (K : PySem.W.Frag) (E : XK) : TS := tSeq (tAsg (tOp (rAdd1 K) (tOp (rIx1 K) (tVar 0) (tC (.int 3))) (tC (.int 1))) (gSub (tVar 0) (tC (.int 3)) rSetL)) (tSeq (tIfS (tTest (tOp (rEq1 K) (tOp (rIx1 K) (tVar 0) (tC (.int 0))) (tC (.int 0)))) (tRet (tC (.int 0))) (tNext)) (tSeq (tIfS (tAnd (tTest (tOp (rEq1 K) (tOp (rIx1 K) (tVar 0) (tC (.int 0))) (tC (.int 1)))) (tAnd (tTest (tOp rLe1 (tOp (rIx1 K) (tVar 0) (tC (.int 3))) (tC (.int 60)))) (tTest (tOp rGt1 (tOp (rIx1 K) (tVar 0) (tC (.int 1))) (tC (.int 0)))))) (tSeq (tAsg (tOp rMod1 (tCB rInt1 (tCons (tOp (rIx1 K) (tVar 0) (tC (.int 1))) (tNil))) (tVar 1)) (gName 2)) (tSeq (tAsg (tOp rDiv1 (tOp (rIx1 K) (tVar 0) (tC (.int 1))) (tVar 1)) (gSub (tVar 0) (tC (.int 1)) rSetL)) (tRet (tVar 2)))) (tNext)) (tSeq (tAsg (tOp rMod1 (tCB rInt1 (tCons (tOp (rAdd1 K) (tOp (rAdd1 K) (tOp (rIx1 K) (tVar 0) (tC (.int 2))) (tOp (rMul1 K) (tC (.int 40503)) (tOp (rIx1 K) (tVar 0) (tC (.int 3))))) (tC (.int 17))) (tNil))) (tC (.int 2147483647))) (gName 3)) (tSeq (tAsg (tOp rMod1 (tCB rInt1 (tCons (tOp (rAdd1 K) (tOp (rAdd1 K) (tOp (rMul1 K) (tVar 3) (tVar 3)) (tOp (rMul1 K) (tC (.int 69621)) (tOp (rIx1 K) (tVar 0) (tC (.int 3))))) (tC (.int 5))) (tNil))) (tC (.int 2147483629))) (gName 3)) (tSeq (tAsg (tOp rMod1 (tCB rInt1 (tCons (tOp (rAdd1 K) (tOp (rAdd1 K) (tOp (rMul1 K) (tVar 3) (tVar 3)) (tC (.int 48271))) (tOp (rIx1 K) (tVar 0) (tC (.int 2)))) (tNil))) (tC (.int 2147483647))) (gName 3)) (tRet (tOp rMod1 (tCB rInt1 (tCons (tOp rDiv1 (tVar 3) (tC (.int 8))) (tNil))) (tVar 1))))))))
theorem pure_law_draw {K : PySem.W.Frag} (κ : KF K) (vs : List V) (H : Hp) (Q : VK) (E : XK) (h : sp_law_draw K vs H Q E) : t_law_draw K E ⟨fun _ H' => Q .non H', Q, fun _ _ => False, fun _ _ => False⟩ (start [("pool" : Str), "many", "got", "x"] vs) H := by
  unfold t_law_draw
  obtain ⟨F, cs, k, l, a, b, c, d, many, rfl, s, hk, h0, hm, q⟩ := h
  refine x_start (σ' := [some _, some _, none, none]) ?_ rfl
  have s := s.front hk
  unfold pl at s
  have fin : ∀ {H' : Hp} {x y z u r : Int}, 0 ≤ r → r < many → S F ((l, .lst [.int x, .int y, .int z, .int u]) :: cs.eraseIdx k) H' → Q (.int r) H' := fun h1 h2 s' => q _ _ _ _ _ _ h1 h2 (S.back hk s')
  walk_at "sx"
  refine x_setL s (k := 0) rfl (by rfl) fun H s => ?_
  simp only [List.set_cons_succ, List.set_cons_zero] at s
  walk_at "sx"
  refine x_if (fun h1 => ?_) (fun h1 => ?_)
  · walk_at "sx"
    exact fin (Int.le_refl _) h0 s
  · walk_at "sx"
    refine x_share ?_ (fun h2 hF => ?_)
    · walk_at "sx"
      exact fin (Int.emod_nonneg _ (Int.ne_of_gt h0)) (Int.emod_lt_of_pos _ h0) s
    · walk_at "sx"
      refine x_share hF (fun h3 _ => ?_)
      walk_at "sx"
      refine x_if (fun h4 => ?_) (fun _ => hF)
      walk_at "sx"
      refine x_setL s (k := 0) rfl (by rfl) fun H s => ?_
      simp only [List.set_cons_succ, List.set_cons_zero] at s
      walk_at "sx"
      exact fin (Int.emod_nonneg _ (Int.ne_of_gt h0)) (Int.emod_lt_of_pos _ h0) s
/-! ### _law_same: slots 0 told 1 due 2 name 3 k -/
/-! ### two data are the same -/
def Fit : Nat → PyData → Prop
  | 0, .list _ => False
  | 0, .tuple _ => False
  | n + 1, .list ds => ds.length < 2 ^ 30 ∧ ∀ d ∈ ds, Fit n d
  | n + 1, .tuple ds => ds.length < 2 ^ 30 ∧ ∀ d ∈ ds, Fit n d
  | _, _ => True
def sp_law_same (n : Nat) (K : PySem.W.Frag) : Sp := fun vs H Q _ => ∃ (x y : V) (d : PyData), vs = [x, y] ∧ Dp K H x d ∧ Dp K H y d ∧ Fit n d ∧ Q (.bl true) H
def t_law_same (K : PySem.W.Frag) (sp : Sp) (E : XK) : TS := tSeq (tIfS (tTest (tOp rIs1 (tVar 1) (tC .non))) (tRet (tOp rIs1 (tVar 0) (tC .non))) (tNext)) (tSeq (tIfS (tTest (tOp rIs1 (tVar 1) (tC (.bl true)))) (tRet (tOp rIs1 (tVar 0) (tC (.bl true)))) (tNext)) (tSeq (tIfS (tTest (tOp rIs1 (tVar 1) (tC (.bl false)))) (tRet (tOp rIs1 (tVar 0) (tC (.bl false)))) (tNext)) (tSeq (tIfS (tTr K (tCB (rIsi1 K) (tCons (tVar 1) (tCons (tC (.ty "int")) (tNil))))) (tRet (tAndV (tCB (rIsi1 K) (tCons (tVar 0) (tCons (tC (.ty "int")) (tNil)))) (tAndV (tNotV (tCB (rIsi1 K) (tCons (tVar 0) (tCons (tC (.ty "bool")) (tNil))))) (tOp (rEq1 K) (tVar 0) (tVar 1))))) (tNext)) (tSeq (tIfS (tTr K (tCB (rIsi1 K) (tCons (tVar 1) (tCons (tC (.ty "str")) (tNil))))) (tRet (tAndV (tCB (rIsi1 K) (tCons (tVar 0) (tCons (tC (.ty "str")) (tNil)))) (tOp (rEq1 K) (tVar 0) (tVar 1)))) (tNext)) (tSeq (tIfS (tTr K (tCB (rIsi1 K) (tCons (tVar 1) (tCons (tC (.ty "dict")) (tNil))))) (tSeq (tIfS (tOr (tNot (tTr K (tCB (rIsi1 K) (tCons (tVar 0) (tCons (tC (.ty "dict")) (tNil)))))) (tTest (tOp (rNe1 K) (tCB (rLen1 K) (tCons (tVar 0) (tNil))) (tCB (rLen1 K) (tCons (tVar 1) (tNil)))))) (tRet (tC (.bl false))) (tNext)) (tSeq (tFor (iSq K (tVar 1)) (gName 2) (tIfS (tOr (tTest (tOp (rNotIn1 K) (tVar 2) (tVar 0))) (tNot (tTr K (tCall sp [] E0 (tCons (tOp (rIx1 K) (tVar 0) (tVar 2)) (tCons (tOp (rIx1 K) (tVar 1) (tVar 2)) (tNil))))))) (tRet (tC (.bl false))) (tNext))) (tRet (tC (.bl true))))) (tNext)) (tSeq (tIfS (tAnd (tTr K (tCB (rIsi1 K) (tCons (tVar 1) (tCons (tC (.ty "list")) (tNil))))) (tNot (tTr K (tCB (rIsi1 K) (tCons (tVar 0) (tCons (tC (.ty "list")) (tNil))))))) (tRet (tC (.bl false))) (tNext)) (tSeq (tIfS (tAnd (tTr K (tCB (rIsi1 K) (tCons (tVar 1) (tCons (tC (.ty "tuple")) (tNil))))) (tNot (tTr K (tCB (rIsi1 K) (tCons (tVar 0) (tCons (tC (.ty "tuple")) (tNil))))))) (tRet (tC (.bl false))) (tNext)) (tSeq (tIfS (tTest (tOp (rNe1 K) (tCB (rLen1 K) (tCons (tVar 0) (tNil))) (tCB (rLen1 K) (tCons (tVar 1) (tNil))))) (tRet (tC (.bl false))) (tNext)) (tSeq (tFor (iRng1 (tCons (tCB (rLen1 K) (tCons (tVar 1) (tNil))) (tNil))) (gName 3) (tIfS (tNot (tTr K (tCall sp [] E0 (tCons (tOp (rIx1 K) (tVar 0) (tVar 3)) (tCons (tOp (rIx1 K) (tVar 1) (tVar 3)) (tNil)))))) (tRet (tC (.bl false))) (tNext))) (tRet (tC (.bl true))))))))))))
/-- the end of it: two lists or two tuples -/
theorem same_seq {K : PySem.W.Frag} {n : Nat} {sp : Sp} {b : Bool} {p q : Addr} {xs ys : List V} {ds : List PyData} {H : Hp} {Q : VK} {nx bk ct : L2.St → Hp → Prop} (hsp : ∀ vs H Q E, sp_law_same n K vs H Q E → sp vs H Q E)
    (h1 : SqB b K H p xs) (h2 : SqB b K H q ys) (a1 : DpAll K H xs ds) (a2 : DpAll K H ys ds) (hl : ds.length < 2 ^ 30) (hf : ∀ d ∈ ds, Fit n d) (fin : Q (.bl true) H) :
    tSeq (tIfS (tTest (tOp (rNe1 K) (tCB (rLen1 K) (tCons (tVar 0) (tNil))) (tCB (rLen1 K) (tCons (tVar 1) (tNil))))) (tRet (tC (.bl false))) (tNext)) (tSeq (tFor (iRng1 (tCons (tCB (rLen1 K) (tCons (tVar 1) (tNil))) (tNil))) (gName 3) (tIfS (tNot (tTr K (tCall sp [] E0 (tCons (tOp (rIx1 K) (tVar 0) (tVar 3)) (tCons (tOp (rIx1 K) (tVar 1) (tVar 3)) (tNil)))))) (tRet (tC (.bl false))) (tNext))) (tRet (tC (.bl true)))) ⟨nx, Q, bk, ct⟩ [some (.ref p), some (.ref q), none, none] H := by
  have l1 := dpAll_len a1
  have l2 := dpAll_len a2
  walk_at "sx"
  refine x_lenL h1.or ?_
  walk_at "sx"
  refine x_lenL h2.or ?_
  walk_at "sx"
  refine x_ifn (fun h => absurd (by rw [l1, l2]) h) (fun _ => ?_)
  walk_at "sx"
  refine x_lenL h2.or ?_
  walk_at "sx"
  refine x_forR1 (n := ds.length) (by rw [l2]) (by omega) (fun i σ' H' => H' = H ∧ ∃ v, σ' = [some (.ref p), some (.ref q), none, v]) ⟨rfl, _, rfl⟩ ?_ ?_
  · rintro i σ' H' hi ⟨rfl, v, rfl⟩
    walk_at "sx"
    obtain ⟨x, hx, dx⟩ := dpAll_get a1 (List.getElem?_eq_getElem hi)
    obtain ⟨y, hy, dy⟩ := dpAll_get a2 (List.getElem?_eq_getElem hi)
    have ix : ∀ {p : Addr} {xs : List V} {z : V} {Q : VK}, SqB b K H' p xs → xs[i]? = some z → Q z H' → rIx1 K (.ref p) (.int (i : Nat)) H' Q := fun h e q => by
      cases b
      · exact x_ixT h (atI_nat e) q
      · exact x_ixL h (atI_nat e) q
    refine ix h1 hx ?_
    walk_at "sx"
    refine ix h2 hy ?_
    walk_at "sx"
    refine hsp _ _ _ _ ⟨x, y, _, rfl, dx, dy, hf _ (List.getElem_mem hi), ?_⟩
    walk_at "sx"
    exact ⟨rfl, _, rfl⟩
  · rintro σ' H' ⟨rfl, v, rfl⟩
    walk_at "sx"
    exact fin
theorem pure_law_same {K : PySem.W.Frag} {n : Nat} {sp : Sp} (hsp : ∀ vs H Q E m, n = m + 1 → sp_law_same m K vs H Q E → sp vs H Q E) (vs : List V) (H : Hp) (Q : VK) (E : XK) (h : sp_law_same n K vs H Q E) :
    t_law_same K sp E ⟨fun _ H' => Q .non H', Q, fun _ _ => False, fun _ _ => False⟩ (start ["told", "due", "name", "k"] vs) H := by
  obtain ⟨x, y, d, rfl, dx, dy, hf, q⟩ := h
  unfold t_law_same
  refine x_start (σ' := [some _, some _, none, none]) ?_ rfl
  have tx := dp_ty dx
  have ty := dp_ty dy
  cases dx with
  | non =>
    cases dy
    walk_at "sx"
    exact x_if (fun _ => by walk_at "sx"; exact q) (fun h => absurd rfl h)
  | bl b =>
    cases dy
    walk_at "sx"
    refine x_if (fun h => nomatch h) (fun _ => ?_)
    walk_at "sx"
    refine x_if (fun h => ?_) (fun h => ?_)
    · cases h
      walk_at "sx"
      exact q
    · walk_at "sx"
      refine x_if (fun h => ?_) (fun h' => ?_)
      · cases h
        walk_at "sx"
        exact q
      · cases b
        · exact absurd rfl h'
        · exact absurd rfl h
  | int i =>
    cases dy
    walk_at "sx"
    refine x_if (fun h => nomatch h) (fun _ => ?_)
    walk_at "sx"
    refine x_if (fun h => nomatch h) (fun _ => ?_)
    walk_at "sx"
    refine x_if (fun h => nomatch h) (fun _ => ?_)
    walk_at "sx"
    refine x_isi (T := "int") ty (r := true) (by decide +kernel) ?_
    walk_at "sx"
    refine x_isi (T := "int") tx (r := true) (by decide +kernel) ?_
    walk_at "sx"
    refine x_isi (T := "int") tx (r := false) (by decide +kernel) ?_
    walk_at "sx"
    rw [decide_eq_true rfl]
    exact q
  | str z =>
    cases dy
    walk_at "sx"
    refine x_if (fun h => nomatch h) (fun _ => ?_)
    walk_at "sx"
    refine x_if (fun h => nomatch h) (fun _ => ?_)
    walk_at "sx"
    refine x_if (fun h => nomatch h) (fun _ => ?_)
    walk_at "sx"
    refine x_isi (T := "str") ty (r := false) (by decide +kernel) ?_
    walk_at "sx"
    refine x_isi (T := "str") ty (r := true) (by decide +kernel) ?_
    walk_at "sx"
    refine x_isi (T := "str") tx (r := true) (by decide +kernel) ?_
    walk_at "sx"
    refine x_eqS rfl ?_
    rw [decide_eq_true rfl]
    exact q
  | lst h1 k1 =>
    cases dy with | lst h2 k2 => ?_
    cases n with
    | zero => exact hf.elim
    | succ n =>
    walk_at "sx"
    refine x_if (fun h => nomatch h) (fun _ => ?_)
    walk_at "sx"
    refine x_if (fun h => nomatch h) (fun _ => ?_)
    walk_at "sx"
    refine x_if (fun h => nomatch h) (fun _ => ?_)
    walk_at "sx"
    refine x_isi (T := "list") ty (r := false) (by decide +kernel) ?_
    walk_at "sx"
    refine x_isi (T := "list") ty (r := false) (by decide +kernel) ?_
    walk_at "sx"
    refine x_isi (T := "list") ty (r := false) (by decide +kernel) ?_
    walk_at "sx"
    refine x_isi (T := "list") ty (r := true) (by decide +kernel) ?_
    walk_at "sx"
    refine x_isi (T := "list") tx (r := true) (by decide +kernel) ?_
    walk_at "sx"
    refine x_isi (T := "list") ty (r := false) (by decide +kernel) ?_
    refine x_trB (iteF (iteF (x_next ?_)))
    exact same_seq (b := true) (fun vs H Q E z => hsp vs H Q E n rfl z) h1 h2 k1 k2 hf.1 hf.2 q
  | tup h1 k1 =>
    cases dy with | tup h2 k2 => ?_
    cases n with
    | zero => exact hf.elim
    | succ n =>
    walk_at "sx"
    refine x_if (fun h => nomatch h) (fun _ => ?_)
    walk_at "sx"
    refine x_if (fun h => nomatch h) (fun _ => ?_)
    walk_at "sx"
    refine x_if (fun h => nomatch h) (fun _ => ?_)
    walk_at "sx"
    refine x_isi (T := "tuple") ty (r := false) (by decide +kernel) ?_
    walk_at "sx"
    refine x_isi (T := "tuple") ty (r := false) (by decide +kernel) ?_
    walk_at "sx"
    refine x_isi (T := "tuple") ty (r := false) (by decide +kernel) ?_
    walk_at "sx"
    refine x_isi (T := "tuple") ty (r := false) (by decide +kernel) ?_
    walk_at "sx"
    refine x_isi (T := "tuple") ty (r := true) (by decide +kernel) ?_
    walk_at "sx"
    refine x_isi (T := "tuple") tx (r := true) (by decide +kernel) ?_
    refine x_trB (x_ntT (x_next ?_))
    exact same_seq (b := false) (fun vs H Q E z => hsp vs H Q E n rfl z) h1 h2 k1 k2 hf.1 hf.2 q
/-! ### _law_rows: slots 0 script 1 place 2 cues 3 replies 4 states 5 rows 6 s 7 pool 8 row 9 c 10 pick -/
def RowOk (cues replies states : Int) (row : List (Int × Int)) : Prop := (row.length : Int) = cues ∧ ∀ e ∈ row, entOk states replies e
def sp_law_rows (K : PySem.W.Frag) : Sp := fun vs H Q _ => ∃ (F : Hp → Prop) (cs : List (Addr × HO)) (a : Addr) (ns : List Int) (place cues replies states : Int), vs = [.ref a, .int place, .int cues, .int replies, .int states] ∧ S F cs H ∧ (∀ B, F B → SqL K B a (ns.map V.int)) ∧ 0 ≤ place ∧
  (1 ≤ cues ∧ cues ≤ 16) ∧ (1 ≤ replies ∧ replies ≤ 256) ∧ (1 ≤ states ∧ states ≤ 64) ∧ ∀ p H' rows, (rows.length : Int) = states → (∀ row ∈ rows, RowOk cues replies states row) → S (fun B => RowsB true K B p rows ∧ F B) cs H' → Q (.ref p) H'
def t_law_rows (K : PySem.W.Frag) (E : XK) : TS := tSeq (tAsg (tLst (tNil)) (gName 5)) (tSeq (tFor (iRng1 (tCons (tVar 4) (tNil))) (gName 6) (tSeq (tAsg (tCall (sp_law_pool K) [] E0 (tCons (tVar 0) (tCons (tOp (rAdd1 K) (tVar 1) (tVar 6)) (tNil)))) (gName 7)) (tSeq (tAsg (tLst (tNil)) (gName 8)) (tSeq (tFor (iRng1 (tCons (tVar 2) (tNil))) (gName 9) (tSeq (tAsg (tCall (sp_law_draw K) [] E0 (tCons (tVar 7) (tCons (tOp (rMul1 K) (tVar 4) (tVar 3)) (tNil)))) (gName 10)) (tDrop (tBM K "list" rAppend (tVar 8) (tCons (tTup (tCons (tOp rDiv1 (tVar 10) (tVar 3)) (tCons (tOp rMod1 (tCB rInt1 (tCons (tVar 10) (tNil))) (tVar 3)) (tNil)))) (tNil)))))) (tDrop (tBM K "list" rAppend (tVar 5) (tCons (tCB (rTuple1 K) (tCons (tVar 8) (tNil))) (tNil)))))))) (tRet (tVar 5)))
theorem pure_law_rows {K : PySem.W.Frag} (κ : KF K) (vs : List V) (H : Hp) (Q : VK) (E : XK) (h : sp_law_rows K vs H Q E) : t_law_rows K E ⟨fun _ H' => Q .non H', Q, fun _ _ => False, fun _ _ => False⟩ (start [("script" : Str), "place", "cues", "replies", "states", "rows", "s", "pool", "row", "c", "pick"] vs) H := by
  unfold t_law_rows
  obtain ⟨F, cs, a, ns, place, cues, replies, states, rfl, s, ha, hp, hc, hr, hst, q⟩ := h
  refine x_start (σ' := [some _, some _, some _, some _, some _, none, none, none, none, none, none]) ?_ rfl
  have mF := s.mono
  walk_at "sx"
  refine x_newL (by simp) s fun l H1 s => ?_
  walk_at "sx"
  refine x_forR1 (n := states.toNat) (by omega) (by omega) (fun i σ' H' => ∃ (xs : List V) (rows : List (List (Int × Int))) (v1 v2 v3 v4 v5 : Option V), σ' = [some (.ref a), some (.int place), some (.int cues), some (.int replies), some (.int states), some (.ref l), v1, v2, v3, v4, v5] ∧ rows.length = i ∧
    (∀ row ∈ rows, RowOk cues replies states row) ∧ S (fun B => DpAll K B xs (rows.map rowD) ∧ F B) ((l, .lst xs) :: cs) H') ⟨[], [], _, _, _, _, _, rfl, rfl, by simp, s.imp fun B f => ⟨.nil, f⟩⟩ ?_ ?_
  · rintro i σ' H' hi ⟨xs, rows, v1, v2, v3, v4, v5, rfl, hl, hrow, s⟩
    walk_at "sx"
    refine ⟨a, ns, _, rfl, ha _ s.fact.2, by omega, fun p H2 x y z u h1 h2 h3 => ?_⟩
    have s := s.new h1 h2 h3
    walk_at "sx"
    refine x_newL (by simp) s fun rl H3 s => ?_
    walk_at "sx"
    refine x_forR1 (n := cues.toNat) (by omega) (by omega) (fun j σ' H' => ∃ (ys : List V) (row : List (Int × Int)) (x y z u : Int) (w1 w2 : Option V), σ' = [some (.ref a), some (.int place), some (.int cues), some (.int replies), some (.int states), some (.ref l), some (.int (i : Nat)), some (.ref p), some (.ref rl), w1, w2] ∧ row.length = j ∧
      (∀ e ∈ row, entOk states replies e) ∧ S (fun B => DpAll K B ys (entD row) ∧ DpAll K B xs (rows.map rowD) ∧ F B) ((rl, .lst ys) :: (p, pl x y z u) :: (l, .lst xs) :: cs) H') ⟨[], [], x, y, z, u, _, _, rfl, rfl, by simp, s.imp fun B f => ⟨.nil, f⟩⟩ ?_ ?_
    · rintro j σ' H' hj ⟨ys, row, x, y, z, u, w1, w2, rfl, hjl, hent, s⟩
      have ylen := dpAll_len s.fact.1
      unfold entD at ylen
      rw [List.length_map] at ylen
      have m1 : 0 < states * replies := Int.mul_pos (by omega) (by omega)
      have m2 : states * replies ≤ 64 * 256 := Int.mul_le_mul hst.2 hr.2 (by omega) (by decide)
      walk_at "sx"
      refine ⟨_, _, 1, p, _, _, _, _, _, rfl, s, rfl, m1, b8000 (by omega), fun H4 x y z u r r0 r1 s => ?_⟩
      simp only [List.set_cons_succ, List.set_cons_zero] at s
      walk_at "sx"
      refine x_newT (by simp) s fun e H5 s => ?_
      have s := s.freezeT (K := K)
      have e1 : entOk states replies (r / replies, r % replies) := ⟨⟨Int.ediv_nonneg r0 (by omega), Int.ediv_lt_of_lt_mul (by omega) r1⟩, Int.emod_nonneg _ (by omega), Int.emod_lt_of_pos _ (by omega)⟩
      walk_at "sx"
      refine x_append s (k := 0) rfl (by rw [ylen]; exact big_sz (by omega)) fun H6 s => ?_
      walk_at "sx"
      refine ⟨ys ++ [.ref e], row ++ [(r / replies, r % replies)], x, y, z, u, _, _, rfl, by rw [List.length_append, hjl]; rfl, fun e' he => ?_, s.imp fun B f => ⟨?_, f.2.2⟩⟩
      · rcases List.mem_append.mp he with h | h
        · exact hent _ h
        · cases List.mem_singleton.mp h
          exact e1
      · unfold entD
        rw [List.map_append]
        exact dpAll_snoc f.2.1 (.tup f.1 (.cons (.int _) (.cons (.int _) .nil)))
    · rintro σ' H' ⟨ys, row, x, y, z, u, w1, w2, rfl, hjl, hent, s⟩
      have xlen := dpAll_len s.fact.2.1
      rw [List.length_map] at xlen
      walk_at "sx"
      refine x_tupof (sq_l (s.at 0 rfl)) s fun t H5 s => ?_
      have s := s.freezeT (K := K)
      walk_at "sx"
      refine x_append s (k := 2) rfl (by rw [xlen]; exact big_sz (by omega)) fun H6 s => ?_
      simp only [List.set_cons_succ, List.set_cons_zero] at s
      walk_at "sx"
      refine ⟨xs ++ [.ref t], rows ++ [row], _, _, _, _, _, rfl, by rw [List.length_append, hl]; rfl, fun row' he => ?_, s.drop1.drop1.imp fun B f => ⟨?_, f.2.2.2⟩⟩
      · rcases List.mem_append.mp he with h | h
        · exact hrow _ h
        · cases List.mem_singleton.mp h
          exact ⟨by omega, hent⟩
      · rw [List.map_append]
        exact dpAll_snoc f.2.2.1 (.tup f.1 f.2.1)
  · rintro σ' H' ⟨xs, rows, v1, v2, v3, v4, v5, rfl, hl, hrow, s⟩
    walk_at "sx"
    exact q l H' rows (by omega) hrow (s.freeze fun B f e => ⟨⟨xs, sq_l e, f.1⟩, f.2⟩)
/-! ### _law_asked: slots 0 way 1 control 2 feed 3 got 4 e 5 kinds -/
def ToldQ (F : Hp → Prop) (cs : List (Addr × HO)) (c : CD) (ns : List Int) (w : Int) (Q : VK) : Prop :=
  (w = 0 → ∀ p l H', S F ((p, .tup [.str "told", .ref l]) :: (l, .lst (repL c.rows c.start ns ns.length)) :: cs) H' → Q (.ref p) H') ∧ (w = 1 → ∀ p l H', S F ((p, .tup [.str "told", .ref l]) :: (l, .lst (staL c.rows c.start ns (ns.length + 1))) :: cs) H' → Q (.ref p) H') ∧
  (w ≠ 0 → w ≠ 1 → ∀ p H', S F ((p, .tup [.str "told", .int (staI c.rows c.start ns ns.length)]) :: cs) H' → Q (.ref p) H')
def sp_law_asked (K : PySem.W.Frag) : Sp := fun vs H Q _ => ∃ (F : Hp → Prop) (cs : List (Addr × HO)) (x f : Addr) (b : Bool) (c : CD) (ns : List Int) (w : Int), vs = [.int w, .ref x, .ref f] ∧ S F cs H ∧ CtlF K F x f b c ns ∧ (FeedOk c.cues ns → ToldQ F cs c ns w Q) ∧
  ∀ i, BadAt c.cues ns i → ∀ p H', S F ((p, .tup [.str "feed", .int (i : Nat)]) :: cs) H' → Q (.ref p) H'
def t_law_asked (K : PySem.W.Frag) (E : XK) : TS := tSeq (tAsg (tTup (tCons (tC (.str "none")) (tCons (tC (.int 0)) (tNil)))) (gName 3)) (tSeq (tTry K (.ref (He.ga K "FabricError")) 4 (fun W => tIfS (tTest (tOp (rEq1 K) (tVar 0) (tC (.int 0)))) (tAsg (tTup (tCons (tC (.str "told")) (tCons (tCallSD (sp_replies_to K) [] (WE W) (tCons (tVar 1) (tCons (tVar 2) (tNil)))) (tNil)))) (gName 3)) (tIfS (tTest (tOp (rEq1 K) (tVar 0) (tC (.int 1)))) (tAsg (tTup (tCons (tC (.str "told")) (tCons (tCallSD (sp_visits K) [] (WE W) (tCons (tVar 1) (tCons (tVar 2) (tNil)))) (tNil)))) (gName 3)) (tAsg (tTup (tCons (tC (.str "told")) (tCons (tCallSD (sp_state_after K) [] (WE W) (tCons (tVar 1) (tCons (tVar 2) (tNil)))) (tNil)))) (gName 3)))) (fun a cls d => tSeq (tAsg (tTup (tCons (tC (.str "other")) (tCons (tC (.int 0)) (tNil)))) (gName 3)) (tSeq (tAsg (tOp (rAdd1 K) (tOp (rAdd1 K) (tCB rInt1 (tCons (tCB (rIsED K cls d a) (tCons (tVar 4) (tCons (tC (.ref (He.ga K "SizeError"))) (tNil)))) (tNil))) (tCB rInt1 (tCons (tCB (rIsED K cls d a) (tCons (tVar 4) (tCons (tC (.ref (He.ga K "ControlError"))) (tNil)))) (tNil)))) (tCB rInt1 (tCons (tCB (rIsED K cls d a) (tCons (tVar 4) (tCons (tC (.ref (He.ga K "FeedError"))) (tNil)))) (tNil)))) (gName 5)) (tSeq (tAsg (tOp (rAdd1 K) (tOp (rAdd1 K) (tVar 5) (tCB rInt1 (tCons (tCB (rIsED K cls d a) (tCons (tVar 4) (tCons (tC (.ref (He.ga K "ExchangeError"))) (tNil)))) (tNil)))) (tCB rInt1 (tCons (tCB (rIsED K cls d a) (tCons (tVar 4) (tCons (tTup (tCons (tC (.ref (He.ga K "BitsError"))) (tCons (tC (.ref (He.ga K "MachineError"))) (tCons (tC (.ref (He.ga K "ProgramError"))) (tNil))))) (tNil)))) (tNil)))) (gName 5)) (tSeq (tAsg (tOp (rAdd1 K) (tVar 5) (tCB rInt1 (tCons (tCB (rIsED K cls d a) (tCons (tVar 4) (tCons (tTup (tCons (tC (.ref (He.ga K "CircuitError"))) (tCons (tC (.ref (He.ga K "NetlistError"))) (tCons (tC (.ref (He.ga K "FanoutError"))) (tCons (tC (.ref (He.ga K "ColouringError"))) (tCons (tC (.ref (He.ga K "EdgeError"))) (tNil))))))) (tNil)))) (tNil)))) (gName 5)) (tSeq (tAsg (tOp (rAdd1 K) (tVar 5) (tCB rInt1 (tCons (tCB (rIsED K cls d a) (tCons (tVar 4) (tCons (tTup (tCons (tC (.ref (He.ga K "PathError"))) (tCons (tC (.ref (He.ga K "TapeError"))) (tCons (tC (.ref (He.ga K "StoreError"))) (tCons (tC (.ref (He.ga K "HistoryError"))) (tCons (tC (.ref (He.ga K "CommandError"))) (tNil))))))) (tNil)))) (tNil)))) (gName 5)) (C8.tCut (tIfS (tAnd (tTest (tOp (rEq1 K) (tVar 5) (tC (.int 1)))) (tAnd (tTr K (tCB (rIsED K cls d a) (tCons (tVar 4) (tCons (tC (.ty "ValueError")) (tNil))))) (tTr K (tCB (rIsED K cls d a) (tCons (tVar 4) (tCons (tC (.ref (He.ga K "SizeError"))) (tNil))))))) (tAsg (tTup (tCons (tC (.str "size")) (tCons (tNevE) (tNil)))) (gName 3)) (tNext)) (C8.tCut (tIfS (tAnd (tTest (tOp (rEq1 K) (tVar 5) (tC (.int 1)))) (tAnd (tTr K (tCB (rIsED K cls d a) (tCons (tVar 4) (tCons (tC (.ty "ValueError")) (tNil))))) (tTr K (tCB (rIsED K cls d a) (tCons (tVar 4) (tCons (tC (.ref (He.ga K "ControlError"))) (tNil))))))) (tAsg (tTup (tCons (tC (.str "control")) (tCons (tNevE) (tNil)))) (gName 3)) (tNext)) (C8.tCut (tIfS (tAnd (tTest (tOp (rEq1 K) (tVar 5) (tC (.int 1)))) (tAnd (tTr K (tCB (rIsED K cls d a) (tCons (tVar 4) (tCons (tC (.ty "ValueError")) (tNil))))) (tTr K (tCB (rIsED K cls d a) (tCons (tVar 4) (tCons (tC (.ref (He.ga K "FeedError"))) (tNil))))))) (tAsg (tTup (tCons (tC (.str "feed")) (tCons (tXf a cls d (He.ga K "FeedError") "index" (tVar 4)) (tNil)))) (gName 3)) (tNext)) (tIfS (tAnd (tTest (tOp (rEq1 K) (tVar 5) (tC (.int 1)))) (tAnd (tTr K (tCB (rIsED K cls d a) (tCons (tVar 4) (tCons (tC (.ty "ValueError")) (tNil))))) (tTr K (tCB (rIsED K cls d a) (tCons (tVar 4) (tCons (tC (.ref (He.ga K "ExchangeError"))) (tNil))))))) (tAsg (tTup (tCons (tC (.str "exchange")) (tCons (tNevE) (tNil)))) (gName 3)) (tNext)))))))))) (fun _ _ _ _ => False)) (tRet (tVar 3)))
theorem pure_law_asked {K : PySem.W.Frag} (κ : KF K) (vs : List V) (H : Hp) (Q : VK) (E : XK) (h : sp_law_asked K vs H Q E) : t_law_asked K E ⟨fun _ H' => Q .non H', Q, fun _ _ => False, fun _ _ => False⟩ (start [("way" : Str), "control", "feed", "got", "e", "kinds"] vs) H := by
  unfold t_law_asked
  obtain ⟨F, cs, x, f, b, c, ns, w, rfl, s, hF, told, bad⟩ := h
  refine x_start (σ' := [some _, some _, some _, none, none, none]) ?_ rfl
  have ec := (ker_FeedError κ).1
  have mF := s.mono
  walk_at "sx"
  refine x_newT (by simp) s fun g0 H1 s => ?_
  have s := s.drop1
  walk_at "sx"
  refine x_if (fun h => ?_) (fun h => ?_)
  · walk_at "sx"
    refine ⟨F, cs, x, f, b, c, ns, rfl, s, hF, fun ok p H1 s => ?_, ?_⟩
    rotate_left
    · intro i hb H2 dd s
      refine was_true (kexm_FeedError_FabricError κ) fun a ha => ?_
      dsimp only [List.set_cons_succ, List.set_cons_zero]
      walk_at "sx"
      refine x_newT (by simp) s fun g H3 s => ?_
      have s := s.drop1
      walk_at "sx"
      refine x_isE (s.at 0 rfl) ec (fun u h => h) (kis_FeedError_SizeError κ) ?_
      walk_at "sx"
      refine x_isE (s.at 0 rfl) ec (fun u h => h) (kis_FeedError_ControlError κ) ?_
      walk_at "sx"
      refine x_isE (s.at 0 rfl) ec (fun u h => h) (kis_FeedError_FeedError κ) ?_
      walk_at "sx"
      refine x_isE (s.at 0 rfl) ec (fun u h => h) (kis_FeedError_ExchangeError κ) ?_
      walk_at "sx"
      refine x_newT (by simp) s fun pt H4 s => ?_
      walk_at "sx"
      refine x_isET (Cs := [He.ga K "BitsError", He.ga K "MachineError", He.ga K "ProgramError"]) (s.at 1 rfl) ec (sq_t (s.at 0 rfl)) (kis_FeedError_BitsError_MachineError_ProgramError κ) ?_
      have s := s.drop1
      walk_at "sx"
      refine x_newT (by simp) s fun pt H4 s => ?_
      walk_at "sx"
      refine x_isET (Cs := [He.ga K "CircuitError", He.ga K "NetlistError", He.ga K "FanoutError", He.ga K "ColouringError", He.ga K "EdgeError"]) (s.at 1 rfl) ec (sq_t (s.at 0 rfl)) (kis_FeedError_CircuitError_NetlistError_FanoutError_ColouringError_EdgeError κ) ?_
      have s := s.drop1
      walk_at "sx"
      refine x_newT (by simp) s fun pt H4 s => ?_
      walk_at "sx"
      refine x_isET (Cs := [He.ga K "PathError", He.ga K "TapeError", He.ga K "StoreError", He.ga K "HistoryError", He.ga K "CommandError"]) (s.at 1 rfl) ec (sq_t (s.at 0 rfl)) (kis_FeedError_PathError_TapeError_StoreError_HistoryError_CommandError κ) ?_
      have s := s.drop1
      walk_at "sx"
      refine x_cut (fun σ' H' => ∃ g, σ' = [some (.int w), some (.ref x), some (.ref f), some (.ref g), some (.ref a), some (.int 1)] ∧ S F ((dd, .xd [("index", .int (i : Nat))]) :: cs) H') ?_ ?_
      · walk_at "sx"
        refine x_if (fun _ => ?_) (fun h => absurd (by decide) h)
        walk_at "sx"
        refine x_isE (s.at 0 rfl) ec (fun u h => h) (kis_FeedError_ValueError κ) ?_
        walk_at "sx"
        refine x_isE (s.at 0 rfl) ec (fun u h => h) (kis_FeedError_SizeError κ) ?_
        walk_at "sx"
        exact ⟨g, rfl, s⟩
      rintro σ' H' ⟨g, rfl, s⟩
      refine x_cut (fun σ' H' => ∃ g, σ' = [some (.int w), some (.ref x), some (.ref f), some (.ref g), some (.ref a), some (.int 1)] ∧ S F ((dd, .xd [("index", .int (i : Nat))]) :: cs) H') ?_ ?_
      · walk_at "sx"
        refine x_if (fun _ => ?_) (fun h => absurd (by decide) h)
        walk_at "sx"
        refine x_isE (s.at 0 rfl) ec (fun u h => h) (kis_FeedError_ValueError κ) ?_
        walk_at "sx"
        refine x_isE (s.at 0 rfl) ec (fun u h => h) (kis_FeedError_ControlError κ) ?_
        walk_at "sx"
        exact ⟨g, rfl, s⟩
      rintro σ' H' ⟨g, rfl, s⟩
      refine x_cut (fun σ' H' => ∃ g, σ' = [some (.int w), some (.ref x), some (.ref f), some (.ref g), some (.ref a), some (.int 1)] ∧ S F ((g, .tup [.str "feed", .int (i : Nat)]) :: (dd, .xd [("index", .int (i : Nat))]) :: cs) H') ?_ ?_
      · walk_at "sx"
        refine x_if (fun _ => ?_) (fun h => absurd (by decide) h)
        walk_at "sx"
        refine x_isE (s.at 0 rfl) ec (fun u h => h) (kis_FeedError_ValueError κ) ?_
        walk_at "sx"
        refine x_isE (s.at 0 rfl) ec (fun u h => h) (kis_FeedError_FeedError κ) ?_
        walk_at "sx"
        refine x_xf1 (s.at 0 rfl) rfl ?_
        walk_at "sx"
        refine x_newT (by simp) s fun g H4 s => ?_
        walk_at "sx"
        exact ⟨g, rfl, s⟩
      rintro σ' H' ⟨g, rfl, s⟩
      walk_at "sx"
      refine x_if (fun _ => ?_) (fun h => absurd (by decide) h)
      walk_at "sx"
      refine x_isE (s.at 1 rfl) ec (fun u h => h) (kis_FeedError_ValueError κ) ?_
      walk_at "sx"
      refine x_isE (s.at 1 rfl) ec (fun u h => h) (kis_FeedError_ExchangeError κ) ?_
      walk_at "sx"
      exact bad i hb g _ (s.sub ((List.sublist_cons_self _ _).cons₂ _))
    walk_at "sx"
    refine x_newT (by simp) s fun t H2 s => ?_
    walk_at "sx"
    exact (told ok).1 h _ _ _ s
  · walk_at "sx"
    refine x_if (fun h1 => ?_) (fun h1 => ?_)
    · walk_at "sx"
      refine ⟨F, cs, x, f, b, c, ns, rfl, s, hF, fun ok p H1 s => ?_, ?_⟩
      rotate_left
      · intro i hb H2 dd s
        refine was_true (kexm_FeedError_FabricError κ) fun a ha => ?_
        dsimp only [List.set_cons_succ, List.set_cons_zero]
        walk_at "sx"
        refine x_newT (by simp) s fun g H3 s => ?_
        have s := s.drop1
        walk_at "sx"
        refine x_isE (s.at 0 rfl) ec (fun u h => h) (kis_FeedError_SizeError κ) ?_
        walk_at "sx"
        refine x_isE (s.at 0 rfl) ec (fun u h => h) (kis_FeedError_ControlError κ) ?_
        walk_at "sx"
        refine x_isE (s.at 0 rfl) ec (fun u h => h) (kis_FeedError_FeedError κ) ?_
        walk_at "sx"
        refine x_isE (s.at 0 rfl) ec (fun u h => h) (kis_FeedError_ExchangeError κ) ?_
        walk_at "sx"
        refine x_newT (by simp) s fun pt H4 s => ?_
        walk_at "sx"
        refine x_isET (Cs := [He.ga K "BitsError", He.ga K "MachineError", He.ga K "ProgramError"]) (s.at 1 rfl) ec (sq_t (s.at 0 rfl)) (kis_FeedError_BitsError_MachineError_ProgramError κ) ?_
        have s := s.drop1
        walk_at "sx"
        refine x_newT (by simp) s fun pt H4 s => ?_
        walk_at "sx"
        refine x_isET (Cs := [He.ga K "CircuitError", He.ga K "NetlistError", He.ga K "FanoutError", He.ga K "ColouringError", He.ga K "EdgeError"]) (s.at 1 rfl) ec (sq_t (s.at 0 rfl)) (kis_FeedError_CircuitError_NetlistError_FanoutError_ColouringError_EdgeError κ) ?_
        have s := s.drop1
        walk_at "sx"
        refine x_newT (by simp) s fun pt H4 s => ?_
        walk_at "sx"
        refine x_isET (Cs := [He.ga K "PathError", He.ga K "TapeError", He.ga K "StoreError", He.ga K "HistoryError", He.ga K "CommandError"]) (s.at 1 rfl) ec (sq_t (s.at 0 rfl)) (kis_FeedError_PathError_TapeError_StoreError_HistoryError_CommandError κ) ?_
        have s := s.drop1
        walk_at "sx"
        refine x_cut (fun σ' H' => ∃ g, σ' = [some (.int w), some (.ref x), some (.ref f), some (.ref g), some (.ref a), some (.int 1)] ∧ S F ((dd, .xd [("index", .int (i : Nat))]) :: cs) H') ?_ ?_
        · walk_at "sx"
          refine x_if (fun _ => ?_) (fun h => absurd (by decide) h)
          walk_at "sx"
          refine x_isE (s.at 0 rfl) ec (fun u h => h) (kis_FeedError_ValueError κ) ?_
          walk_at "sx"
          refine x_isE (s.at 0 rfl) ec (fun u h => h) (kis_FeedError_SizeError κ) ?_
          walk_at "sx"
          exact ⟨g, rfl, s⟩
        rintro σ' H' ⟨g, rfl, s⟩
        refine x_cut (fun σ' H' => ∃ g, σ' = [some (.int w), some (.ref x), some (.ref f), some (.ref g), some (.ref a), some (.int 1)] ∧ S F ((dd, .xd [("index", .int (i : Nat))]) :: cs) H') ?_ ?_
        · walk_at "sx"
          refine x_if (fun _ => ?_) (fun h => absurd (by decide) h)
          walk_at "sx"
          refine x_isE (s.at 0 rfl) ec (fun u h => h) (kis_FeedError_ValueError κ) ?_
          walk_at "sx"
          refine x_isE (s.at 0 rfl) ec (fun u h => h) (kis_FeedError_ControlError κ) ?_
          walk_at "sx"
          exact ⟨g, rfl, s⟩
        rintro σ' H' ⟨g, rfl, s⟩
        refine x_cut (fun σ' H' => ∃ g, σ' = [some (.int w), some (.ref x), some (.ref f), some (.ref g), some (.ref a), some (.int 1)] ∧ S F ((g, .tup [.str "feed", .int (i : Nat)]) :: (dd, .xd [("index", .int (i : Nat))]) :: cs) H') ?_ ?_
        · walk_at "sx"
          refine x_if (fun _ => ?_) (fun h => absurd (by decide) h)
          walk_at "sx"
          refine x_isE (s.at 0 rfl) ec (fun u h => h) (kis_FeedError_ValueError κ) ?_
          walk_at "sx"
          refine x_isE (s.at 0 rfl) ec (fun u h => h) (kis_FeedError_FeedError κ) ?_
          walk_at "sx"
          refine x_xf1 (s.at 0 rfl) rfl ?_
          walk_at "sx"
          refine x_newT (by simp) s fun g H4 s => ?_
          walk_at "sx"
          exact ⟨g, rfl, s⟩
        rintro σ' H' ⟨g, rfl, s⟩
        walk_at "sx"
        refine x_if (fun _ => ?_) (fun h => absurd (by decide) h)
        walk_at "sx"
        refine x_isE (s.at 1 rfl) ec (fun u h => h) (kis_FeedError_ValueError κ) ?_
        walk_at "sx"
        refine x_isE (s.at 1 rfl) ec (fun u h => h) (kis_FeedError_ExchangeError κ) ?_
        walk_at "sx"
        exact bad i hb g _ (s.sub ((List.sublist_cons_self _ _).cons₂ _))
      walk_at "sx"
      refine x_newT (by simp) s fun t H2 s => ?_
      walk_at "sx"
      exact (told ok).2.1 h1 _ _ _ s
    · walk_at "sx"
      refine ⟨F, cs, x, f, b, c, ns, rfl, s, hF, fun ok H1 s => ?_, ?_⟩
      rotate_left
      · intro i hb H2 dd s
        refine was_true (kexm_FeedError_FabricError κ) fun a ha => ?_
        dsimp only [List.set_cons_succ, List.set_cons_zero]
        walk_at "sx"
        refine x_newT (by simp) s fun g H3 s => ?_
        have s := s.drop1
        walk_at "sx"
        refine x_isE (s.at 0 rfl) ec (fun u h => h) (kis_FeedError_SizeError κ) ?_
        walk_at "sx"
        refine x_isE (s.at 0 rfl) ec (fun u h => h) (kis_FeedError_ControlError κ) ?_
        walk_at "sx"
        refine x_isE (s.at 0 rfl) ec (fun u h => h) (kis_FeedError_FeedError κ) ?_
        walk_at "sx"
        refine x_isE (s.at 0 rfl) ec (fun u h => h) (kis_FeedError_ExchangeError κ) ?_
        walk_at "sx"
        refine x_newT (by simp) s fun pt H4 s => ?_
        walk_at "sx"
        refine x_isET (Cs := [He.ga K "BitsError", He.ga K "MachineError", He.ga K "ProgramError"]) (s.at 1 rfl) ec (sq_t (s.at 0 rfl)) (kis_FeedError_BitsError_MachineError_ProgramError κ) ?_
        have s := s.drop1
        walk_at "sx"
        refine x_newT (by simp) s fun pt H4 s => ?_
        walk_at "sx"
        refine x_isET (Cs := [He.ga K "CircuitError", He.ga K "NetlistError", He.ga K "FanoutError", He.ga K "ColouringError", He.ga K "EdgeError"]) (s.at 1 rfl) ec (sq_t (s.at 0 rfl)) (kis_FeedError_CircuitError_NetlistError_FanoutError_ColouringError_EdgeError κ) ?_
        have s := s.drop1
        walk_at "sx"
        refine x_newT (by simp) s fun pt H4 s => ?_
        walk_at "sx"
        refine x_isET (Cs := [He.ga K "PathError", He.ga K "TapeError", He.ga K "StoreError", He.ga K "HistoryError", He.ga K "CommandError"]) (s.at 1 rfl) ec (sq_t (s.at 0 rfl)) (kis_FeedError_PathError_TapeError_StoreError_HistoryError_CommandError κ) ?_
        have s := s.drop1
        walk_at "sx"
        refine x_cut (fun σ' H' => ∃ g, σ' = [some (.int w), some (.ref x), some (.ref f), some (.ref g), some (.ref a), some (.int 1)] ∧ S F ((dd, .xd [("index", .int (i : Nat))]) :: cs) H') ?_ ?_
        · walk_at "sx"
          refine x_if (fun _ => ?_) (fun h => absurd (by decide) h)
          walk_at "sx"
          refine x_isE (s.at 0 rfl) ec (fun u h => h) (kis_FeedError_ValueError κ) ?_
          walk_at "sx"
          refine x_isE (s.at 0 rfl) ec (fun u h => h) (kis_FeedError_SizeError κ) ?_
          walk_at "sx"
          exact ⟨g, rfl, s⟩
        rintro σ' H' ⟨g, rfl, s⟩
        refine x_cut (fun σ' H' => ∃ g, σ' = [some (.int w), some (.ref x), some (.ref f), some (.ref g), some (.ref a), some (.int 1)] ∧ S F ((dd, .xd [("index", .int (i : Nat))]) :: cs) H') ?_ ?_
        · walk_at "sx"
          refine x_if (fun _ => ?_) (fun h => absurd (by decide) h)
          walk_at "sx"
          refine x_isE (s.at 0 rfl) ec (fun u h => h) (kis_FeedError_ValueError κ) ?_
          walk_at "sx"
          refine x_isE (s.at 0 rfl) ec (fun u h => h) (kis_FeedError_ControlError κ) ?_
          walk_at "sx"
          exact ⟨g, rfl, s⟩
        rintro σ' H' ⟨g, rfl, s⟩
        refine x_cut (fun σ' H' => ∃ g, σ' = [some (.int w), some (.ref x), some (.ref f), some (.ref g), some (.ref a), some (.int 1)] ∧ S F ((g, .tup [.str "feed", .int (i : Nat)]) :: (dd, .xd [("index", .int (i : Nat))]) :: cs) H') ?_ ?_
        · walk_at "sx"
          refine x_if (fun _ => ?_) (fun h => absurd (by decide) h)
          walk_at "sx"
          refine x_isE (s.at 0 rfl) ec (fun u h => h) (kis_FeedError_ValueError κ) ?_
          walk_at "sx"
          refine x_isE (s.at 0 rfl) ec (fun u h => h) (kis_FeedError_FeedError κ) ?_
          walk_at "sx"
          refine x_xf1 (s.at 0 rfl) rfl ?_
          walk_at "sx"
          refine x_newT (by simp) s fun g H4 s => ?_
          walk_at "sx"
          exact ⟨g, rfl, s⟩
        rintro σ' H' ⟨g, rfl, s⟩
        walk_at "sx"
        refine x_if (fun _ => ?_) (fun h => absurd (by decide) h)
        walk_at "sx"
        refine x_isE (s.at 1 rfl) ec (fun u h => h) (kis_FeedError_ValueError κ) ?_
        walk_at "sx"
        refine x_isE (s.at 1 rfl) ec (fun u h => h) (kis_FeedError_ExchangeError κ) ?_
        walk_at "sx"
        exact bad i hb g _ (s.sub ((List.sublist_cons_self _ _).cons₂ _))
      walk_at "sx"
      refine x_newT (by simp) s fun t H2 s => ?_
      walk_at "sx"
      exact (told ok).2.2 h h1 _ _ s
/-! ### _law_led: slots 0 rows 1 origin 2 feed 3 told 4 stood 5 c 6 entry -/
def sp_law_led (K : PySem.W.Frag) : Sp := fun vs H Q _ => ∃ (F : Hp → Prop) (cs : List (Addr × HO)) (r f : Addr) (b b2 : Bool) (c : CD) (ns : List Int), vs = [.ref r, .int c.start, .ref f] ∧ S F cs H ∧ (∀ B, F B → RowsB b2 K B r c.rows ∧ SqB b K B f (ns.map V.int)) ∧ c.good ∧ FeedOk c.cues ns ∧ ns.length < 1000000 ∧
  ∀ p t st H', S F ((p, .lst [.ref t, .ref st, .int (staI c.rows c.start ns ns.length)]) :: (st, .lst (staL c.rows c.start ns (ns.length + 1))) :: (t, .lst (repL c.rows c.start ns ns.length)) :: cs) H' → Q (.ref p) H'
def t_law_led (K : PySem.W.Frag) (E : XK) : TS := tSeq (tAsg (tLst (tNil)) (gName 3)) (tSeq (tAsg (tLst (tCons (tVar 1) (tNil))) (gName 4)) (tSeq (tFor (iSq K (tVar 2)) (gName 5) (tSeq (tAsg (tOp (rIx1 K) (tOp (rIx1 K) (tVar 0) (tOp (rIx1 K) (tVar 4) (tOp rSub1 (tCB (rLen1 K) (tCons (tVar 4) (tNil))) (tC (.int 1))))) (tVar 5)) (gName 6)) (tSeq (tDrop (tBM K "list" rAppend (tVar 3) (tCons (tOp (rIx1 K) (tVar 6) (tC (.int 1))) (tNil)))) (tDrop (tBM K "list" rAppend (tVar 4) (tCons (tOp (rIx1 K) (tVar 6) (tC (.int 0))) (tNil))))))) (tRet (tLst (tCons (tVar 3) (tCons (tVar 4) (tCons (tOp (rIx1 K) (tVar 4) (tOp rSub1 (tCB (rLen1 K) (tCons (tVar 4) (tNil))) (tC (.int 1)))) (tNil))))))))
theorem pure_law_led {K : PySem.W.Frag} (κ : KF K) (vs : List V) (H : Hp) (Q : VK) (E : XK) (h : sp_law_led K vs H Q E) : t_law_led K E ⟨fun _ H' => Q .non H', Q, fun _ _ => False, fun _ _ => False⟩ (start [("rows" : Str), "origin", "feed", "told", "stood", "c", "entry"] vs) H := by
  unfold t_law_led
  obtain ⟨F, cs, r, f, b, b2, c, ns, rfl, s, hF, g, ok, hn, q⟩ := h
  refine x_start (σ' := [some _, some _, some _, none, none, none, none]) ?_ rfl
  have mF := s.mono
  have sok := staI_ok g ok g.st
  have last : ∀ i : Nat, atI (staL c.rows c.start ns (i + 1)) (((staL c.rows c.start ns (i + 1)).length : Int) - 1) = some (.int (staI c.rows c.start ns i)) := fun i => by
    rw [staL_len, show (((i + 1 : Nat) : Int) - 1) = (i : Nat) by omega]
    refine atI_nat ?_
    rw [staL_succ, List.getElem?_append_right (by rw [staL_len]; exact Nat.le_refl _), staL_len, Nat.sub_self]
    rfl
  walk_at "sx"
  refine x_newL (by simp) s fun t H1 s => ?_
  walk_at "sx"
  refine x_newL (by simp) s fun st H1 s => ?_
  walk_at "sx"
  refine x_forB (hF _ s.fact).2 (fun i σ' H' => ∃ v w, σ' = [some (.ref r), some (.int c.start), some (.ref f), some (.ref t), some (.ref st), v, w] ∧ S F ((st, .lst (staL c.rows c.start ns (i + 1))) :: (t, .lst (repL c.rows c.start ns i)) :: cs) H') ⟨_, _, rfl, s⟩ (fun i σ H h => by obtain ⟨_, _, _, s⟩ := h; exact (hF _ s.fact).2) ?_ ?_
  · rintro i y σ' H' hy ⟨v, w, rfl, s⟩
    obtain ⟨n, hz, rfl⟩ := ints_get hy
    have hi := (List.getElem?_eq_some_iff.mp hz).1
    walk_at "sx"
    refine x_ixC s (by walk_at "m") (last i) ?_
    walk_at "sx"
    obtain ⟨p, z, s⟩ := s.ent (fun B f => (hF B f).1) g (sok i) (ok n (mem_of_get hz))
    refine x_e1 s.fact.1 (sok i).1 ?_
    walk_at "sx"
    refine x_e2 s.fact.1 (ok n (mem_of_get hz)).1 ?_
    walk_at "sx"
    refine x_ixT s.fact.1.2.2 rfl ?_
    walk_at "sx"
    refine x_append s (k := 1) rfl (by rw [repL_len]; exact big_sz (by omega)) fun H2 s => ?_
    simp only [List.set_cons_succ, List.set_cons_zero] at s
    walk_at "sx"
    refine x_ixT s.fact.1.2.2 rfl ?_
    walk_at "sx"
    refine x_append s (k := 0) rfl (by rw [staL_len]; exact big_sz (by omega)) fun H2 s => ?_
    simp only [List.set_cons_succ, List.set_cons_zero] at s
    walk_at "sx"
    refine ⟨_, _, rfl, ?_⟩
    rw [staL_succ (i := i + 1), repL_succ hz, staI_succ hz]
    exact s.imp fun B f => f.2
  · rintro σ' H' ⟨v, w, rfl, s⟩
    rw [List.length_map] at s
    walk_at "sx"
    refine x_ixC s (by walk_at "m") (last _) ?_
    walk_at "sx"
    exact x_newL (by simp) s fun p H2 s => q _ _ _ _ s
/-! ### _law_feed: slots 0 pool 1 cues 2 many 3 block 4 k -/
theorem x_draws {σ : L2.St} {H : Hp} {Q : VK} {K : PySem.W.Frag} {F : Hp → Prop} {cs : List (Addr × HO)} {k w i0 i1 n : Nat} {l : Addr} {a b c d many j : Int} (hw : ∀ v, wipe ((wipe σ [w]).set w v) [w] = wipe σ [w]) (h0 : ∀ v, ((wipe σ [w]).set w v)[i0]? = some (some (.ref l))) (h1 : ∀ v, ((wipe σ [w]).set w v)[i1]? = some (some (.int many)))
    (s : S F cs H) (hk : cs[k]? = some (l, pl a b c d)) (hj : j = (n : Int)) (hn : n < 10000000) (m0 : 0 < many) (m1 : many < 2 ^ 8000)
    (hd : ∀ D H x y z u ns, ns.length = n → FeedOk many ns → S F ((D, .lst (ns.map V.int)) :: cs.set k (l, pl x y z u)) H → Q (.ref D) H) :
    ∃ k : Int, [V.int j] = [.int k] ∧ -(2 ^ 62) ≤ k ∧ k < 2 ^ 62 ∧ LcW (Itr 0 k.toNat) σ H Q (gName w) tYes (tCall (sp_law_draw K) [] E0 (tCons (tVar i0) (tCons (tVar i1) (tNil)))) [w] := by
  have hl : k < cs.length := (List.getElem?_eq_some_iff.mp hk).1
  refine x_lcR1 hj (Nat.lt_of_lt_of_le hn (by decide)) (fun D i H => ∃ ns x y z u, ns.length = i ∧ FeedOk many ns ∧ S F ((D, .lst (ns.map V.int)) :: cs.set k (l, pl x y z u)) H) (fun D hD => ⟨[], a, b, c, d, rfl, fun _ h => (nomatch h), ?_⟩) ?_ ?_
  · have e : cs.set k (l, pl a b c d) = cs := by
      obtain ⟨h1, h2⟩ := List.getElem?_eq_some_iff.mp hk
      rw [← h2]
      exact List.set_getElem_self h1
    rw [e]
    exact s.alloc hD
  · rintro D i H hi ⟨ns, x, y, z, u, hl2, hf, s⟩
    refine x_gname ⟨hw _, x_yes0 (iteT ?_)⟩
    refine x_call (x_cons (x_var (h0 _) (x_cons (x_var (h1 _) (x_nil ?_)))))
    refine ⟨F, _, k + 1, l, x, y, z, u, many, rfl, s, ?_, m0, m1, fun H' x y z u r r0 r1 s => ?_⟩
    · show (cs.set k (l, pl x y z u))[k]? = _
      rw [List.getElem?_set_self hl]
    · rw [List.set_cons_succ, List.set_set] at s
      refine ⟨_, s.at 0 rfl, by rw [List.length_map]; exact big_sz (by omega), ns ++ [r], x, y, z, u, by rw [List.length_append, hl2]; rfl, fun m hm => ?_, ?_⟩
      · rcases List.mem_append.mp hm with h | h
        · exact hf m h
        · cases List.mem_singleton.mp h
          exact ⟨r0, r1⟩
      · rw [List.map_append]
        exact s.set 0 rfl _
  · rintro D H ⟨ns, x, y, z, u, h1, h2, h3⟩
    exact hd D H x y z u ns h1 h2 h3
def sp_law_feed (K : PySem.W.Frag) : Sp := fun vs H Q _ => ∃ (F : Hp → Prop) (cs : List (Addr × HO)) (k : Nat) (l : Addr) (a b c d cues many : Int), vs = [.ref l, .int cues, .int many] ∧ S F cs H ∧ cs[k]? = some (l, pl a b c d) ∧ (1 ≤ cues ∧ cues ≤ 16) ∧ (0 ≤ many ∧ many < 1000000) ∧
  ∀ p H' x y z u ns, ((ns.length : Nat) : Int) = many → FeedOk cues ns → S F ((p, .lst (ns.map V.int)) :: cs.set k (l, pl x y z u)) H' → Q (.ref p) H'
def t_law_feed (K : PySem.W.Frag) (E : XK) : TS := tSeq (tAsg (tLc (iRng1 (tCons (tOp (rAdd1 K) (tC (.int 1)) (tCall (sp_law_draw K) [] E0 (tCons (tVar 0) (tCons (tC (.int 9)) (tNil))))) (tNil))) (gName 4) (tYes) (tCall (sp_law_draw K) [] E0 (tCons (tVar 0) (tCons (tVar 1) (tNil)))) [4]) (gName 3)) (tSeq (tIfS (tTest (tOp rLt1 (tVar 2) (tC (.int 50)))) (tRet (tLc (iRng1 (tCons (tVar 2) (tNil))) (gName 4) (tYes) (tCall (sp_law_draw K) [] E0 (tCons (tVar 0) (tCons (tVar 1) (tNil)))) [4])) (tNext)) (tRet (tLc (iRng1 (tCons (tVar 2) (tNil))) (gName 4) (tYes) (tOp (rIx1 K) (tVar 3) (tOp rMod1 (tCB rInt1 (tCons (tVar 4) (tNil))) (tCB (rLen1 K) (tCons (tVar 3) (tNil))))) [4])))
theorem pure_law_feed {K : PySem.W.Frag} (κ : KF K) (vs : List V) (H : Hp) (Q : VK) (E : XK) (h : sp_law_feed K vs H Q E) : t_law_feed K E ⟨fun _ H' => Q .non H', Q, fun _ _ => False, fun _ _ => False⟩ (start [("pool" : Str), "cues", "many", "block", "k"] vs) H := by
  unfold t_law_feed
  obtain ⟨F, cs, k, l, a, b, c, d, cues, many, rfl, s, hk, hc, hm, q⟩ := h
  refine x_start (σ' := [some _, some _, some _, none, none]) ?_ rfl
  have hkl : k < cs.length := (List.getElem?_eq_some_iff.mp hk).1
  have hk2 : ∀ x y z u, (cs.set k (l, pl x y z u))[k]? = some (l, pl x y z u) := fun x y z u => List.getElem?_set_self hkl
  walk_at "sx"
  refine ⟨F, cs, k, l, _, _, _, _, _, rfl, s, hk, by decide, b8000 (by decide), fun H1 x y z u r r0 r1 s => ?_⟩
  walk_at "sx"
  refine x_draws (n := (1 + r).toNat) (fun v => rfl) (fun v => rfl) (fun v => rfl) s (hk2 x y z u) (by omega) (by omega) (by omega) (b8000 (by omega)) fun D H2 x y z u bs hbl hbf s => ?_
  rw [List.set_set] at s
  walk_at "sx"
  refine x_if (fun h => ?_) (fun h => ?_)
  · walk_at "sx"
    have s : S F (((D, .lst (bs.map V.int)) :: cs).set (k + 1) (l, pl x y z u)) H2 := s
    refine x_draws (k := k + 1) (n := many.toNat) (fun v => rfl) (fun v => rfl) (fun v => rfl) s (List.getElem?_set_self (by show k + 1 < cs.length + 1; omega)) (by omega) (by omega) (by omega) (b8000 (by omega)) fun D2 H3 x y z u ns hl hf s => ?_
    rw [List.set_set] at s
    exact q D2 H3 x y z u ns (by omega) hf (s.sub ((List.sublist_cons_self _ _).cons₂ _))
  · walk_at "sx"
    refine x_lcFR (fun i => some (.int (bs.getD (i % bs.length) 0))) (n := many.toNat) (by omega) (by omega) s ?_ ?_
    · intro D2 acc i H3 Put Skip hi put skip s
      have h1 : i % bs.length < bs.length := Nat.mod_lt _ (by omega)
      have e : ((i : Nat) : Int) % (((bs.map V.int).length : Nat) : Int) = ((i % bs.length : Nat) : Int) := by
        rw [List.length_map]
        exact (Int.natCast_emod i bs.length).symm
      walk_at "wipe"
      walk_at "sx"
      refine ⟨rfl, ?_⟩
      walk_at "sx"
      refine x_mod (by rw [List.length_map]; omega) ?_
      walk_at "sx"
      rw [e]
      refine x_ixC s (by walk_at "m") (v := .int (bs.getD (i % bs.length) 0)) (atI_nat (by rw [List.getElem?_map, List.getD_eq_getElem?_getD, List.getElem?_eq_getElem h1]; rfl)) ?_
      exact put _ _ rfl s
    · intro D2 H3 s
      rw [fm_map (fun i => V.int (bs.getD (i % bs.length) 0))] at s
      refine q D2 H3 x y z u ((List.range many.toNat).map fun i => bs.getD (i % bs.length) 0) (by rw [List.length_map, List.length_range]; omega) (fun n hn => ?_) ?_
      · obtain ⟨i, _, rfl⟩ := List.mem_map.mp hn
        have h1 : i % bs.length < bs.length := Nat.mod_lt _ (by omega)
        rw [List.getD_eq_getElem?_getD, List.getElem?_eq_getElem h1]
        exact hbf _ (List.getElem_mem h1)
      · rw [List.map_map]
        exact s.sub ((List.sublist_cons_self _ _).cons₂ _)
/-! ### _law_faulty: slots 0 pool 1 feed 2 cues 3 made 4 k 5 number -/
def sp_law_faulty (K : PySem.W.Frag) : Sp := fun vs H Q _ => ∃ (F : Hp → Prop) (cs : List (Addr × HO)) (k : Nat) (l f : Addr) (a b c d cues : Int) (ns : List Int), vs = [.ref l, .ref f, .int cues] ∧ S F cs H ∧ cs[k]? = some (l, pl a b c d) ∧ (∀ B, F B → SqL K B f (ns.map V.int)) ∧ ns.length < 1000000 ∧
  ∀ p H' x y z u (ms : List Int), S F ((p, .lst (ms.map V.int)) :: cs.set k (l, pl x y z u)) H' → ms.length = ns.length → Q (.ref p) H'
def t_law_faulty (K : PySem.W.Frag) (E : XK) : TS := tSeq (tAsg (tCB (rList1 K) (tCons (tVar 1) (tNil))) (gName 3)) (tSeq (tIfS (tTest (tOp (rEq1 K) (tCB (rLen1 K) (tCons (tVar 3) (tNil))) (tC (.int 0)))) (tRet (tVar 3)) (tNext)) (tSeq (tFor (iRng1 (tCons (tOp (rAdd1 K) (tC (.int 1)) (tCall (sp_law_draw K) [] E0 (tCons (tVar 0) (tCons (tC (.int 2)) (tNil))))) (tNil))) (gName 4) (tSeq (tAsg (tOp (rAdd1 K) (tVar 2) (tCall (sp_law_draw K) [] E0 (tCons (tVar 0) (tCons (tC (.int 3)) (tNil))))) (gName 5)) (C8.tCut (tIfS (tTest (tOp (rEq1 K) (tCall (sp_law_draw K) [] E0 (tCons (tVar 0) (tCons (tC (.int 2)) (tNil)))) (tC (.int 1)))) (tAsg (tOp rSub1 (tUn rNeg1 (tC (.int 1))) (tCall (sp_law_draw K) [] E0 (tCons (tVar 0) (tCons (tOp rPow1 (tC (.int 10)) (tC (.int 6))) (tNil))))) (gName 5)) (tNext)) (tAsg (tVar 5) (gSub (tVar 3) (tCall (sp_law_draw K) [] E0 (tCons (tVar 0) (tCons (tCB (rLen1 K) (tCons (tVar 3) (tNil))) (tNil)))) rSetL))))) (tRet (tVar 3))))
theorem pure_law_faulty {K : PySem.W.Frag} (κ : KF K) (vs : List V) (H : Hp) (Q : VK) (E : XK) (h : sp_law_faulty K vs H Q E) : t_law_faulty K E ⟨fun _ H' => Q .non H', Q, fun _ _ => False, fun _ _ => False⟩ (start [("pool" : Str), "feed", "cues", "made", "k", "number"] vs) H := by
  unfold t_law_faulty
  obtain ⟨F, cs, k, l, f, a, b, c, d, cues, ns, rfl, s, hk, hf, hn, q⟩ := h
  refine x_start (σ' := [some _, some _, some _, none, none, none]) ?_ rfl
  have hkl : k < cs.length := (List.getElem?_eq_some_iff.mp hk).1
  have hk2 : ∀ {p : Addr} {o : HO} x y z u, ((p, o) :: cs.set k (l, pl x y z u))[k + 1]? = some (l, pl x y z u) := fun x y z u => List.getElem?_set_self hkl
  have hset : ∀ {p : Addr} {o : HO} (x y z u x2 y2 z2 u2 : Int), ((p, o) :: cs.set k (l, pl x y z u)).set (k + 1) (l, pl x2 y2 z2 u2) = (p, o) :: cs.set k (l, pl x2 y2 z2 u2) := fun x y z u x2 y2 z2 u2 => by
    rw [List.set_cons_succ, List.set_set]
  have eself : cs.set k (l, pl a b c d) = cs := by
    obtain ⟨h1, h2⟩ := List.getElem?_eq_some_iff.mp hk
    rw [← h2]
    exact List.set_getElem_self h1
  walk_at "sx"
  refine x_listof (.inl (hf _ s.fact)) s fun p H1 s => ?_
  walk_at "sx"
  refine x_if (fun h => ?_) (fun h => ?_)
  · walk_at "sx"
    rw [← eself] at s
    exact q p H1 a b c d ns s rfl
  · rw [List.length_map] at h
    walk_at "sx"
    refine ⟨F, _, k + 1, l, _, _, _, _, _, rfl, s, hk, by decide, b8000 (by decide), fun H1 x y z u r r0 r1 s => ?_⟩
    have s : S F ((p, .lst (ns.map V.int)) :: cs.set k (l, pl x y z u)) H1 := s
    walk_at "sx"
    refine x_forR1 (n := (1 + r).toNat) (by omega) (by omega) (fun i σ' H' => ∃ (ms : List Int) (x y z u : Int) (v w : Option V), σ' = [some (.ref l), some (.ref f), some (.int cues), some (.ref p), v, w] ∧ ms.length = ns.length ∧ S F ((p, .lst (ms.map V.int)) :: cs.set k (l, pl x y z u)) H') ⟨ns, x, y, z, u, _, _, rfl, rfl, s⟩ ?_ ?_
    · rintro i σ' H' hi ⟨ms, x, y, z, u, v, w, rfl, hl, s⟩
      walk_at "sx"
      refine ⟨F, _, k + 1, l, _, _, _, _, _, rfl, s, hk2 _ _ _ _, by decide, b8000 (by decide), fun H1 x y z u r r0 r1 s => ?_⟩
      rw [hset] at s
      walk_at "sx"
      refine x_cut (fun σ' H' => ∃ (n : Int) (x y z u : Int) (v : Option V), σ' = [some (.ref l), some (.ref f), some (.int cues), some (.ref p), v, some (.int n)] ∧ S F ((p, .lst (ms.map V.int)) :: cs.set k (l, pl x y z u)) H') ?_ ?_
      · walk_at "sx"
        refine ⟨F, _, k + 1, l, _, _, _, _, _, rfl, s, hk2 _ _ _ _, by decide, b8000 (by decide), fun H1 x y z u r r0 r1 s => ?_⟩
        rw [hset] at s
        walk_at "sx"
        refine x_if (fun h => ?_) (fun h => ?_)
        · walk_at "sx"
          refine ⟨F, _, k + 1, l, _, _, _, _, _, rfl, s, hk2 _ _ _ _, by decide +kernel, b8000 (by decide +kernel), fun H1 x y z u r r0 r1 s => ?_⟩
          rw [hset] at s
          walk_at "sx"
          exact ⟨_, _, _, _, _, _, rfl, s⟩
        · walk_at "sx"
          exact ⟨_, _, _, _, _, _, rfl, s⟩
      · rintro σ' H' ⟨n, x, y, z, u, v, rfl, s⟩
        walk_at "sx"
        refine ⟨F, _, k + 1, l, _, _, _, _, _, rfl, s, hk2 _ _ _ _, by rw [List.length_map]; omega, b8000 (by rw [List.length_map]; omega), fun H1 x y z u r r0 r1 s => ?_⟩
        rw [hset] at s
        rw [List.length_map] at r1
        refine x_setL s (k := 0) rfl (n := r.toNat) (by unfold ixN; rw [if_pos r0, if_pos (by rw [List.length_map]; exact r1)]) fun H2 s => ?_
        have s : S F ((p, .lst ((ms.map V.int).set r.toNat (.int n))) :: cs.set k (l, pl x y z u)) H2 := s
        rw [← List.map_set] at s
        exact ⟨ms.set r.toNat n, _, _, _, _, _, _, rfl, by rw [List.length_set]; exact hl, s⟩
    · rintro σ' H' ⟨ms, x, y, z, u, v, w, rfl, hl, s⟩
      walk_at "sx"
      exact q p H' x y z u ms s hl
/-! ### _law_first_fault: slots 0 feed 1 cues 2 k -/
def sp_law_first_fault (K : PySem.W.Frag) : Sp := fun vs H Q _ => ∃ (f : Addr) (cues : Int) (ns : List Int), vs = [.ref f, .int cues] ∧ SqL K H f (ns.map V.int) ∧ ns.length < 1000000 ∧ (FeedOk cues ns → Q .non H) ∧ ∀ i : Nat, BadAt cues ns i → Q (.int (i : Nat)) H
def t_law_first_fault (K : PySem.W.Frag) (E : XK) : TS := tSeq (tFor (iRng1 (tCons (tCB (rLen1 K) (tCons (tVar 0) (tNil))) (tNil))) (gName 2) (tIfS (tOr (tTest (tOp rLt1 (tOp (rIx1 K) (tVar 0) (tVar 2)) (tC (.int 0)))) (tTest (tOp rGe1 (tOp (rIx1 K) (tVar 0) (tVar 2)) (tVar 1)))) (tRet (tVar 2)) (tNext))) (tRet (tC .non))
theorem pure_law_first_fault {K : PySem.W.Frag} (κ : KF K) (vs : List V) (H : Hp) (Q : VK) (E : XK) (h : sp_law_first_fault K vs H Q E) : t_law_first_fault K E ⟨fun _ H' => Q .non H', Q, fun _ _ => False, fun _ _ => False⟩ (start [("feed" : Str), "cues", "k"] vs) H := by
  unfold t_law_first_fault
  obtain ⟨f, cues, ns, rfl, hf, hn, q1, q2⟩ := h
  refine x_start (σ' := [some _, some _, none]) ?_ rfl
  walk_at "sx"
  refine x_lenL (.inl hf) ?_
  walk_at "sx"
  refine x_forR1 (n := ns.length) (by rw [List.length_map]) (by omega) (fun i σ' H' => H' = H ∧ (∃ v, σ' = [some (.ref f), some (.int cues), v]) ∧ ∀ j, j < i → ∀ n, ns[j]? = some n → 0 ≤ n ∧ n < cues) ⟨rfl, ⟨_, rfl⟩, fun j h => absurd h (Nat.not_lt_zero j)⟩ ?_ ?_
  · rintro i σ' H' hi ⟨rfl, ⟨v, rfl⟩, hj⟩
    have hg : ns[i]? = some ns[i] := List.getElem?_eq_getElem hi
    generalize ns[i] = n at hg
    have ha : atI (ns.map V.int) ((i : Nat) : Int) = some (.int n) := atI_nat (by rw [List.getElem?_map, hg]; rfl)
    walk_at "sx"
    refine x_ixL hf ha ?_
    walk_at "sx"
    refine x_if (fun h => ?_) (fun h => ?_)
    · walk_at "sx"
      exact q2 i ⟨⟨n, hg, by omega⟩, hj⟩
    · walk_at "sx"
      refine x_ixL hf ha ?_
      walk_at "sx"
      refine x_if (fun h2 => ?_) (fun h2 => ?_)
      · walk_at "sx"
        exact q2 i ⟨⟨n, hg, by omega⟩, hj⟩
      · walk_at "sx"
        refine ⟨rfl, ⟨_, rfl⟩, fun j hj2 m hm => ?_⟩
        rcases Nat.lt_or_ge j i with z | z
        · exact hj j z m hm
        · obtain rfl : j = i := by omega
          rw [hg] at hm
          cases hm
          omega
  · rintro σ' H' ⟨rfl, ⟨v, rfl⟩, hj⟩
    walk_at "sx"
    refine q1 fun n hn => ?_
    obtain ⟨j, hj2⟩ := List.mem_iff_getElem?.mp hn
    exact hj j (List.getElem?_eq_some_iff.mp hj2).1 n hj2
/-! ### _law_all: slots 0 control 1 rows 2 origin 3 feed 4 tupled 5 due 6 way 7 given 8 got 9 told -/
def TLi (c : CD) (ns : List Int) (i : Nat) : List Int := if i = 0 then (List.range ns.length).map (repS c.rows c.start ns) else (List.range (ns.length + 1)).map (staI c.rows c.start ns)
theorem repL_eq {rows : List (List (Int × Int))} {s0 : Int} {ns : List Int} {m : Nat} : repL rows s0 ns m = ((List.range m).map (repS rows s0 ns)).map V.int := by unfold repL; rw [List.map_map]; rfl
theorem staL_eq {rows : List (List (Int × Int))} {s0 : Int} {ns : List Int} {m : Nat} : staL rows s0 ns m = ((List.range m).map (staI rows s0 ns)).map V.int := by unfold staL; rw [List.map_map]; rfl
theorem TLi_len {c : CD} {ns : List Int} {i : Nat} : (TLi c ns i).length ≤ ns.length + 1 := by
  unfold TLi
  split <;> rw [List.length_map, List.length_range] <;> omega
def ToldS (G : Hp → Prop) (cs : List (Addr × HO)) (c : CD) (ns : List Int) (i : Nat) (q : Addr) (H : Hp) : Prop := (i < 2 ∧ ∃ l, S G ((q, .tup [.str "told", .ref l]) :: (l, .lst ((TLi c ns i).map V.int)) :: cs) H) ∨ (¬ i < 2 ∧ S G ((q, .tup [.str "told", .int (staI c.rows c.start ns ns.length)]) :: cs) H)
theorem asked_ok {K : PySem.W.Frag} {G : Hp → Prop} {cs : List (Addr × HO)} {H : Hp} {Q : VK} {E : XK} {x f : Addr} {b : Bool} {c : CD} {ns : List Int} (s : S G cs H) (hc : CtlF K G x f b c ns) (ok : FeedOk c.cues ns) (i : Nat) (k : ∀ q H', ToldS G cs c ns i q H' → Q (.ref q) H') :
    sp_law_asked K [.int (i : Nat), .ref x, .ref f] H Q E := by
  refine ⟨G, cs, x, f, b, c, ns, i, rfl, s, hc, fun _ => ⟨fun h p l H' s => k p H' (.inl ⟨by omega, l, ?_⟩), fun h p l H' s => k p H' (.inl ⟨by omega, l, ?_⟩), fun h1 h2 p H' s => k p H' (.inr ⟨by omega, s⟩)⟩, fun j hj => (ok_not_bad ok hj).elim⟩
  · have e : i = 0 := by omega
    unfold TLi
    rw [if_pos e, ← repL_eq]
    exact s
  · have e : ¬ i = 0 := by omega
    unfold TLi
    rw [if_neg e, ← staL_eq]
    exact s
theorem fit_told {ns : List Int} (h : ns.length < 2 ^ 30) : Fit 4 (.tuple [.str "told", .list (ns.map PyData.int)]) := by
  refine ⟨by show 2 < 2 ^ 30; decide, fun d hd => ?_⟩
  rcases List.mem_cons.mp hd with rfl | hd
  · exact True.intro
  · cases List.mem_singleton.mp hd
    refine ⟨by rw [List.length_map]; exact h, fun d hd => ?_⟩
    obtain ⟨n, _, rfl⟩ := List.mem_map.mp hd
    exact True.intro
theorem fit_told1 {z : Str} {n : Int} : Fit 4 (.tuple [.str z, .int n]) := by
  refine ⟨by show 2 < 2 ^ 30; decide, fun d hd => ?_⟩
  rcases List.mem_cons.mp hd with rfl | hd
  · exact True.intro
  · cases List.mem_singleton.mp hd
    exact True.intro
def sp_law_all (K : PySem.W.Frag) : Sp := fun vs H Q _ => ∃ (F : Hp → Prop) (cs : List (Addr × HO)) (x r f : Addr) (b2 : Bool) (c : CD) (ns : List Int) (tp : Bool), vs = [.ref x, .ref r, .int c.start, .ref f, .bl tp] ∧ S F cs H ∧ (∀ B, F B → Ctl K B x c ∧ RowsB b2 K B r c.rows ∧ SqL K B f (ns.map V.int)) ∧
  c.good ∧ FeedOk c.cues ns ∧ ns.length < 1000000 ∧ ∀ H', S F cs H' → Q (.bl true) H'
def t_law_all (K : PySem.W.Frag) (E : XK) : TS := tSeq (tAsg (tCall (sp_law_led K) [] E0 (tCons (tVar 1) (tCons (tVar 2) (tCons (tVar 3) (tNil))))) (gName 5)) (tSeq (tFor (iRng1 (tCons (tC (.int 3)) (tNil))) (gName 6) (tSeq (tAsg (tCB (rList1 K) (tCons (tVar 3) (tNil))) (gName 7)) (C8.tCut (tIfS (tTr K (tVar 4)) (tAsg (tCall (sp_law_asked K) [] E0 (tCons (tVar 6) (tCons (tVar 0) (tCons (tCB (rTuple1 K) (tCons (tVar 7) (tNil))) (tNil))))) (gName 8)) (tAsg (tCall (sp_law_asked K) [] E0 (tCons (tVar 6) (tCons (tVar 0) (tCons (tVar 7) (tNil))))) (gName 8))) (tSeq (tIfS (tOr (tNot (tTr K (tCall (sp_law_same 4 K) [] E0 (tCons (tVar 8) (tCons (tTup (tCons (tC (.str "told")) (tCons (tOp (rIx1 K) (tVar 5) (tVar 6)) (tNil)))) (tNil)))))) (tTest (tOp (rNe1 K) (tVar 7) (tVar 3)))) (tRet (tC (.bl false))) (tNext)) (tIfS (tTest (tOp rLt1 (tVar 6) (tC (.int 2)))) (tSeq (tAsg (tOp (rIx1 K) (tVar 8) (tC (.int 1))) (gName 9)) (tSeq (tDrop (tBM K "list" rAppend (tVar 9) (tCons (tC (.int 0)) (tNil)))) (tSeq (tAsg (tC (.int 77)) (gSub (tVar 9) (tC (.int 0)) rSetL)) (tIfS (tNot (tTr K (tCall (sp_law_same 4 K) [] E0 (tCons (tCall (sp_law_asked K) [] E0 (tCons (tVar 6) (tCons (tVar 0) (tCons (tCB (rList1 K) (tCons (tVar 3) (tNil))) (tNil))))) (tCons (tTup (tCons (tC (.str "told")) (tCons (tOp (rIx1 K) (tVar 5) (tVar 6)) (tNil)))) (tNil)))))) (tRet (tC (.bl false))) (tNext))))) (tNext)))))) (tRet (tC (.bl true))))
theorem pure_law_all {K : PySem.W.Frag} (κ : KF K) (vs : List V) (H : Hp) (Q : VK) (E : XK) (h : sp_law_all K vs H Q E) : t_law_all K E ⟨fun _ H' => Q .non H', Q, fun _ _ => False, fun _ _ => False⟩ (start [("control" : Str), "rows", "origin", "feed", "tupled", "due", "way", "given", "got", "told"] vs) H := by
  unfold t_law_all
  obtain ⟨F, cs, x, r, f, b2, c, ns, tp, rfl, s, hF, g, ok, hn, q⟩ := h
  refine x_start (σ' := [some _, some _, some _, some _, some _, none, none, none, none, none]) ?_ rfl
  have mF := s.mono
  walk_at "sx"
  refine ⟨F, cs, r, f, true, b2, c, ns, rfl, s, fun B h => ⟨(hF B h).2.1, (hF B h).2.2⟩, g, ok, hn, fun p t st H1 s => ?_⟩
  have s := ((s.freezeL (K := K)).freezeL (K := K)).freezeL (K := K)
  rw [repL_eq, staL_eq] at s
  have s : S (fun B => (SqL K B t ((TLi c ns 0).map V.int) ∧ SqL K B st ((TLi c ns 1).map V.int) ∧ SqL K B p [.ref t, .ref st, .int (staI c.rows c.start ns ns.length)]) ∧ F B) cs H1 := s.imp fun B f => ⟨⟨f.1, f.2.1, f.2.2.1⟩, f.2.2.2⟩
  walk_at "sx"
  refine x_forR1 (n := 3) rfl (by decide) (fun i σ' H' => ∃ v1 v2 v3 v4, σ' = [some (.ref x), some (.ref r), some (.int c.start), some (.ref f), some (.bl tp), some (.ref p), v1, v2, v3, v4] ∧
    S (fun B => (SqL K B t ((TLi c ns 0).map V.int) ∧ SqL K B st ((TLi c ns 1).map V.int) ∧ SqL K B p [.ref t, .ref st, .int (staI c.rows c.start ns ns.length)]) ∧ F B) cs H') ⟨_, _, _, _, rfl, s⟩ ?_ ?_
  · rintro i σ' H' hi ⟨v1, v2, v3, v4, rfl, s⟩
    walk_at "sx"
    refine x_listof (.inl (hF _ s.fact.2).2.2) s fun gv H2 s => ?_
    have s := s.freezeL (K := K)
    walk_at "sx"
    refine x_cut (fun σ' H' => ∃ q, σ' = [some (.ref x), some (.ref r), some (.int c.start), some (.ref f), some (.bl tp), some (.ref p), some (.int (i : Nat)), some (.ref gv), some (.ref q), v4] ∧
      ToldS (fun B => SqB true K B gv (ns.map V.int) ∧ (SqL K B t ((TLi c ns 0).map V.int) ∧ SqL K B st ((TLi c ns 1).map V.int) ∧ SqL K B p [.ref t, .ref st, .int (staI c.rows c.start ns ns.length)]) ∧ F B) cs c ns i q H') ?_ ?_
    · walk_at "sx"
      refine x_ifb (fun h => ?_) (fun h => ?_)
      · walk_at "sx"
        refine x_tupof s.fact.1 s fun tpl H3 s => ?_
        have s := s.freezeT (K := K)
        walk_at "sx"
        refine asked_ok (b := false) s ⟨fun B h => ⟨(hF B h.2.2.2).1, h.1⟩, g, by omega⟩ ok i fun q H4 told => ?_
        walk_at "sx"
        refine ⟨q, rfl, ?_⟩
        rcases told with ⟨h1, l, s⟩ | ⟨h1, s⟩
        · exact .inl ⟨h1, l, s.imp fun B f => f.2⟩
        · exact .inr ⟨h1, s.imp fun B f => f.2⟩
      · walk_at "sx"
        refine asked_ok (b := true) s ⟨fun B h => ⟨(hF B h.2.2).1, h.1⟩, g, by omega⟩ ok i fun q H4 told => ?_
        walk_at "sx"
        exact ⟨q, rfl, told⟩
    · rintro σ' H' ⟨q, rfl, told⟩
      rcases told with ⟨h1, l, s⟩ | ⟨h1, s⟩
      · have due : ∃ d, ([V.ref t, .ref st, .int (staI c.rows c.start ns ns.length)])[i]? = some (.ref d) ∧ ∀ B, (SqL K B t ((TLi c ns 0).map V.int) ∧ SqL K B st ((TLi c ns 1).map V.int) ∧ SqL K B p [.ref t, .ref st, .int (staI c.rows c.start ns ns.length)]) → SqL K B d ((TLi c ns i).map V.int) := by
          rcases (by omega : i = 0 ∨ i = 1) with rfl | rfl
          · exact ⟨t, rfl, fun B h => h.1⟩
          · exact ⟨st, rfl, fun B h => h.2.1⟩
        obtain ⟨d, hd, hdd⟩ := due
        have tlen := TLi_len (c := c) (ns := ns) (i := i)
        walk_at "sx"
        refine x_ixL s.fact.2.1.2.2 (atI_nat hd) ?_
        walk_at "sx"
        refine x_newT (by simp) s fun e H3 s => ?_
        walk_at "sx"
        refine ⟨_, _, .tuple [.str "told", .list ((TLi c ns i).map PyData.int)], rfl, .tup (sq_t (s.at 1 rfl)) (.cons (.str _) (.cons (dp_ints (sq_l (s.at 2 rfl))) .nil)), .tup (sq_t (s.at 0 rfl)) (.cons (.str _) (.cons (dp_ints (hdd _ s.fact.2.1)) .nil)), fit_told (by omega), ?_⟩
        walk_at "sx"
        refine x_neInts s.fact.1 (hF _ s.fact.2.2).2.2 ?_
        walk_at "sx"
        refine x_if (fun _ => ?_) (fun h => absurd (by omega) h)
        walk_at "sx"
        refine x_ixT (sq_t (s.at 1 rfl)) rfl ?_
        walk_at "sx"
        refine x_append s (k := 2) rfl (by rw [List.length_map]; exact big_sz (by omega)) fun H4 s => ?_
        simp only [List.set_cons_succ, List.set_cons_zero] at s
        walk_at "sx"
        refine x_setL s (k := 2) rfl (n := 0) (by unfold ixN; rw [if_pos (by decide), if_pos (by rw [List.length_append, List.length_singleton]; omega)]; rfl) fun H5 s => ?_
        simp only [List.set_cons_succ, List.set_cons_zero] at s
        have s := s.drop1.drop1.drop1
        walk_at "sx"
        refine x_listof (.inl (hF _ s.fact.2.2).2.2) s fun nf H6 s => ?_
        have s := s.freezeL (K := K)
        walk_at "sx"
        refine asked_ok (b := true) s ⟨fun B h => ⟨(hF B h.2.2.2).1, h.1⟩, g, by omega⟩ ok i fun q2 H7 told => ?_
        rcases told with ⟨_, l2, s⟩ | ⟨h2, _⟩
        · walk_at "sx"
          refine x_ixL s.fact.2.2.1.2.2 (atI_nat hd) ?_
          walk_at "sx"
          refine x_newT (by simp) s fun e2 H8 s => ?_
          walk_at "sx"
          refine ⟨_, _, .tuple [.str "told", .list ((TLi c ns i).map PyData.int)], rfl, .tup (sq_t (s.at 1 rfl)) (.cons (.str _) (.cons (dp_ints (sq_l (s.at 2 rfl))) .nil)), .tup (sq_t (s.at 0 rfl)) (.cons (.str _) (.cons (dp_ints (hdd _ s.fact.2.2.1)) .nil)), fit_told (by omega), ?_⟩
          walk_at "sx"
          exact ⟨_, _, _, _, rfl, (s.drop1.drop1.drop1).imp fun B f => f.2.2⟩
        · exact absurd h1 h2
      · obtain rfl : i = 2 := by omega
        walk_at "sx"
        refine x_ixL s.fact.2.1.2.2 (v := .int (staI c.rows c.start ns ns.length)) rfl ?_
        walk_at "sx"
        refine x_newT (by simp) s fun e H3 s => ?_
        walk_at "sx"
        refine ⟨_, _, .tuple [.str "told", .int (staI c.rows c.start ns ns.length)], rfl, .tup (sq_t (s.at 1 rfl)) (.cons (.str _) (.cons (.int _) .nil)), .tup (sq_t (s.at 0 rfl)) (.cons (.str _) (.cons (.int _) .nil)), fit_told1, ?_⟩
        walk_at "sx"
        refine x_neInts s.fact.1 (hF _ s.fact.2.2).2.2 ?_
        walk_at "sx"
        refine x_if (fun h => absurd h (by decide)) (fun h => ?_)
        walk_at "sx"
        exact ⟨_, _, _, _, rfl, (s.drop1.drop1).imp fun B f => f.2⟩
  · rintro σ' H' ⟨v1, v2, v3, v4, rfl, s⟩
    walk_at "sx"
    exact q _ (s.imp fun B f => f.2)
/-! ### law: slots 0 script 1 pool 2 cues 3 replies 4 states 5 origin 6 many 7 tupled 8 rows 9 other 10 one 11 two 12 feed 13 k 14 s 15 faulty 16 at 17 way 18 given 19 got -/
theorem cut_ints (fs : List Int) (lo hi : Option Int) : ∃ gs : List Int, cutV (fs.map V.int) lo hi = gs.map V.int ∧ (∀ n ∈ gs, n ∈ fs) ∧ gs.length ≤ fs.length := by
  unfold cutV
  rw [List.length_map, ← List.map_drop, ← List.map_take]
  refine ⟨_, rfl, fun n h => List.mem_of_mem_drop (List.mem_of_mem_take h), ?_⟩
  rw [List.length_take, List.length_drop]
  omega
theorem x_listRows {K : PySem.W.Frag} {F : Hp → Prop} {cs : List (Addr × HO)} {H : Hp} {Q : VK} {r : Addr} {b : Bool} {rows : List (List (Int × Int))} (hF : ∀ B, F B → RowsB b K B r rows) (s : S F cs H) (k : ∀ l H', S (fun B => RowsB true K B l rows ∧ F B) cs H' → Q (.ref l) H') : rList1 K [.ref r] H Q := by
  have mF := s.mono
  obtain ⟨xs, s⟩ := (s.imp (G := fun B => ∃ xs, (SqB b K B r xs ∧ DpAll K B xs (rows.map rowD)) ∧ F B) fun B f => let ⟨xs, h1, h2⟩ := hF B f; ⟨xs, ⟨h1, h2⟩, f⟩).exE
  exact x_listof s.fact.1.1.or s fun l H' s => k l H' (s.freeze fun B f e => ⟨⟨xs, sq_l e, f.1.2⟩, f.2⟩)
theorem x_tupRows {K : PySem.W.Frag} {F : Hp → Prop} {cs : List (Addr × HO)} {H : Hp} {Q : VK} {r : Addr} {b : Bool} {rows : List (List (Int × Int))} (hF : ∀ B, F B → RowsB b K B r rows) (s : S F cs H) (k : ∀ l H', S (fun B => RowsB false K B l rows ∧ F B) cs H' → Q (.ref l) H') : rTuple1 K [.ref r] H Q := by
  have mF := s.mono
  obtain ⟨xs, s⟩ := (s.imp (G := fun B => ∃ xs, (SqB b K B r xs ∧ DpAll K B xs (rows.map rowD)) ∧ F B) fun B f => let ⟨xs, h1, h2⟩ := hF B f; ⟨xs, ⟨h1, h2⟩, f⟩).exE
  exact x_tupB (fun B f => f.1.1) s fun l H' s => k l H' (s.imp fun B f => ⟨⟨xs, f.1, f.2.1.2⟩, f.2.2⟩)
theorem x_startedM {K : PySem.W.Frag} {H : Hp} {x : Addr} {c : CD} {R : Prop} (h : Ctl K H x c) (q : R) : MethW (He.ga K "Control") "started" (.ref x) H R := by
  obtain ⟨r, dx, h, _⟩ := h
  exact x_m h rfl q
theorem ff_ok {K : PySem.W.Frag} {H : Hp} {Q : VK} {E : XK} {f : Addr} {cues : Int} {ns : List Int} (hf : SqL K H f (ns.map V.int)) (hn : ns.length < 1000000) (k : ∀ v, ((v = .non ∧ FeedOk cues ns) ∨ ∃ i : Nat, v = .int (i : Nat) ∧ BadAt cues ns i) → Q v H) : sp_law_first_fault K [.ref f, .int cues] H Q E :=
  ⟨f, cues, ns, rfl, hf, hn, fun ok => k _ (.inl ⟨rfl, ok⟩), fun i hb => k _ (.inr ⟨i, rfl, hb⟩)⟩
theorem good_of {cues replies states start : Int} {rows : List (List (Int × Int))} (hc : 1 ≤ cues ∧ cues ≤ 16) (hr : 1 ≤ replies ∧ replies ≤ 256) (hs : 1 ≤ states ∧ states ≤ 64) (hl : (rows.length : Int) = states) (h0 : 0 ≤ start ∧ start < states) (hrow : ∀ row ∈ rows, RowOk cues replies states row) : GoodC cues replies rows start :=
  ⟨hc, hr, by omega, by omega, fun row h => by rw [hl]; exact hrow row h⟩
def sp_law (K : PySem.W.Frag) : Sp := fun vs H Q _ => ∃ (a : Addr) (ns : List Int), vs = [.ref a] ∧ SqL K H a (ns.map V.int) ∧ ns.length ≤ 63 ∧ ∀ H', Q (.bl true) H'
def t_law (K : PySem.W.Frag) (E : XK) : TS := tSeq (tAsg (tCall (sp_law_pool K) [] E0 (tCons (tVar 0) (tCons (tC (.int 0)) (tNil)))) (gName 1)) (tSeq (tAsg (tOp (rAdd1 K) (tC (.int 1)) (tCall (sp_law_draw K) [] E0 (tCons (tVar 1) (tCons (tC (.int 4)) (tNil))))) (gName 2)) (tSeq (tAsg (tOp (rAdd1 K) (tC (.int 1)) (tCall (sp_law_draw K) [] E0 (tCons (tVar 1) (tCons (tC (.int 5)) (tNil))))) (gName 3)) (tSeq (tAsg (tOp (rAdd1 K) (tC (.int 1)) (tCall (sp_law_draw K) [] E0 (tCons (tVar 1) (tCons (tC (.int 6)) (tNil))))) (gName 4)) (C8.tCut (tIfS (tTest (tOp (rEq1 K) (tCall (sp_law_draw K) [] E0 (tCons (tVar 1) (tCons (tC (.int 16)) (tNil)))) (tC (.int 15)))) (tSeq (tAsg (tC (.int 16)) (gName 2)) (tSeq (tAsg (tC (.int 256)) (gName 3)) (tAsg (tC (.int 64)) (gName 4)))) (tNext)) (tSeq (tAsg (tCall (sp_law_draw K) [] E0 (tCons (tVar 1) (tCons (tVar 4) (tNil)))) (gName 5)) (tSeq (tAsg (tCall (sp_law_draw K) [] E0 (tCons (tVar 1) (tCons (tC (.int 41)) (tNil)))) (gName 6)) (C8.tCut (tIfS (tTest (tOp (rEq1 K) (tCall (sp_law_draw K) [] E0 (tCons (tVar 1) (tCons (tC (.int 64)) (tNil)))) (tC (.int 63)))) (tAsg (tOp (rAdd1 K) (tC (.int 1000)) (tCall (sp_law_draw K) [] E0 (tCons (tVar 1) (tCons (tC (.int 9001)) (tNil))))) (gName 6)) (tNext)) (tSeq (tAsg (tOp (rEq1 K) (tCall (sp_law_draw K) [] E0 (tCons (tVar 1) (tCons (tC (.int 2)) (tNil)))) (tC (.int 1))) (gName 7)) (tSeq (tAsg (tCall (sp_law_rows K) [] E0 (tCons (tVar 0) (tCons (tC (.int 1)) (tCons (tVar 2) (tCons (tVar 3) (tCons (tVar 4) (tNil))))))) (gName 8)) (tSeq (tAsg (tCall (sp_law_rows K) [] E0 (tCons (tVar 0) (tCons (tC (.int 20)) (tCons (tVar 2) (tCons (tVar 3) (tCons (tVar 4) (tNil))))))) (gName 9)) (tSeq (tAsg (tMakeK (He.ga K "Control") 3 1 (sp_Control__init K) g_kb_Control__init_3_start E0 (tCons (tVar 2) (tCons (tVar 3) (tCons (tCB (rList1 K) (tCons (tVar 8) (tNil))) (tNil)))) (tCons (tVar 5) (tNil))) (gName 10)) (tSeq (tAsg (tMakeK (He.ga K "Control") 3 1 (sp_Control__init K) g_kb_Control__init_3_start E0 (tCons (tVar 2) (tCons (tVar 3) (tCons (tCB (rTuple1 K) (tCons (tVar 9) (tNil))) (tNil)))) (tCons (tOp rSub1 (tOp rSub1 (tVar 4) (tC (.int 1))) (tVar 5)) (tNil))) (gName 11)) (tSeq (tAsg (tCall (sp_law_feed K) [] E0 (tCons (tCall (sp_law_pool K) [] E0 (tCons (tVar 0) (tCons (tC (.int 10)) (tNil)))) (tCons (tVar 2) (tCons (tVar 6) (tNil))))) (gName 12)) (tSeq (tAsg (tCall (sp_law_pool K) [] E0 (tCons (tVar 0) (tCons (tC (.int 11)) (tNil)))) (gName 1)) (tSeq (tFor (iRng1 (tCons (tC (.int 2)) (tNil))) (gName 13) (tSeq (tIfS (tNot (tTr K (tCall (sp_law_all K) [] E0 (tCons (tVar 10) (tCons (tVar 8) (tCons (tVar 5) (tCons (tVar 12) (tCons (tVar 7) (tNil))))))))) (tRet (tC (.bl false))) (tNext)) (tIfS (tNot (tTr K (tCall (sp_law_all K) [] E0 (tCons (tVar 11) (tCons (tVar 9) (tCons (tOp rSub1 (tOp rSub1 (tVar 4) (tC (.int 1))) (tVar 5)) (tCons (tSl (rSlL K) (tVar 12) (tPart (tVar 13)) (tNoPart)) (tCons (tNotV (tVar 7)) (tNil))))))))) (tRet (tC (.bl false))) (tNext)))) (tSeq (tAsg (tCall (sp_law_draw K) [] E0 (tCons (tVar 1) (tCons (tVar 4) (tNil)))) (gName 14)) (tSeq (tIfS (tOr (tNot (tTr K (tCall (sp_law_all K) [] E0 (tCons (tMeth (He.ga K "Control") "started" (sp_Control_started K) [] E0 (tVar 10) (tCons (tVar 14) (tNil))) (tCons (tVar 8) (tCons (tVar 14) (tCons (tSl (rSlL K) (tVar 12) (tNoPart) (tPart (tC (.int 30)))) (tCons (tVar 7) (tNil))))))))) (tNot (tTr K (tCall (sp_law_all K) [] E0 (tCons (tVar 10) (tCons (tVar 8) (tCons (tVar 5) (tCons (tLst (tNil)) (tCons (tVar 7) (tNil)))))))))) (tRet (tC (.bl false))) (tNext)) (tSeq (tIfS (tTest (tOp (rEq1 K) (tCall (sp_law_draw K) [] E0 (tCons (tVar 1) (tCons (tC (.int 2)) (tNil)))) (tC (.int 0)))) (tRet (tC (.bl true))) (tNext)) (tSeq (tAsg (tCall (sp_law_faulty K) [] E0 (tCons (tVar 1) (tCons (tVar 12) (tCons (tVar 2) (tNil))))) (gName 15)) (tSeq (tAsg (tCall (sp_law_first_fault K) [] E0 (tCons (tVar 15) (tCons (tVar 2) (tNil)))) (gName 16)) (tSeq (tFor (iRng1 (tCons (tC (.int 3)) (tNil))) (gName 17) (tSeq (tAsg (tCB (rList1 K) (tCons (tVar 15) (tNil))) (gName 18)) (tSeq (tAsg (tCall (sp_law_asked K) [] E0 (tCons (tVar 17) (tCons (tVar 10) (tCons (tVar 18) (tNil))))) (gName 19)) (tSeq (tIfS (tAnd (tTest (tOp rIsNot1 (tVar 16) (tC .non))) (tNot (tTr K (tCall (sp_law_same 4 K) [] E0 (tCons (tVar 19) (tCons (tTup (tCons (tC (.str "feed")) (tCons (tVar 16) (tNil)))) (tNil))))))) (tRet (tC (.bl false))) (tNext)) (tIfS (tTest (tOp (rNe1 K) (tVar 18) (tVar 15))) (tRet (tC (.bl false))) (tNext)))))) (tRet (tCall (sp_law_all K) [] E0 (tCons (tVar 10) (tCons (tVar 8) (tCons (tVar 5) (tCons (tSl (rSlL K) (tVar 12) (tNoPart) (tPart (tC (.int 9)))) (tCons (tVar 7) (tNil)))))))))))))))))))))))))))))
theorem pure_law {K : PySem.W.Frag} (κ : KF K) (vs : List V) (H : Hp) (Q : VK) (E : XK) (h : sp_law K vs H Q E) : t_law K E ⟨fun _ H' => Q .non H', Q, fun _ _ => False, fun _ _ => False⟩ (start [("script" : Str), "pool", "cues", "replies", "states", "origin", "many", "tupled", "rows", "other", "one", "two", "feed", "k", "s", "faulty", "at", "way", "given", "got"] vs) H := by
  unfold t_law
  obtain ⟨a, ns, rfl, ha, hl, q⟩ := h
  refine x_start (σ' := [some _, none, none, none, none, none, none, none, none, none, none, none, none, none, none, none, none, none, none, none]) ?_ rfl
  have s : S (fun B => SqL K B a (ns.map V.int)) [] H := S.of ha
  walk_at "sx"
  refine ⟨a, ns, _, rfl, s.fact, by decide, fun p H1 x y z u h1 h2 h3 => ?_⟩
  have s := s.new h1 h2 h3
  walk_at "sx"
  refine ⟨_, _, 0, p, _, _, _, _, _, rfl, s, rfl, by decide, b8000 (by decide), fun H2 x y z u r1 a1 b1 s => ?_⟩
  simp only [List.set_cons_zero] at s
  walk_at "sx"
  refine ⟨_, _, 0, p, _, _, _, _, _, rfl, s, rfl, by decide, b8000 (by decide), fun H2 x y z u r2 a2 b2 s => ?_⟩
  simp only [List.set_cons_zero] at s
  walk_at "sx"
  refine ⟨_, _, 0, p, _, _, _, _, _, rfl, s, rfl, by decide, b8000 (by decide), fun H2 x y z u r3 a3 b3 s => ?_⟩
  simp only [List.set_cons_zero] at s
  walk_at "sx"
  refine x_cut (fun σ' H' => ∃ cues replies states x y z u : Int, σ' = [some (.ref a), some (.ref p), some (.int cues), some (.int replies), some (.int states), none, none, none, none, none, none, none, none, none, none, none, none, none, none, none] ∧ (1 ≤ cues ∧ cues ≤ 16) ∧ (1 ≤ replies ∧ replies ≤ 256) ∧ (1 ≤ states ∧ states ≤ 64) ∧ S (fun B => SqL K B a (ns.map V.int)) [(p, pl x y z u)] H') ?_ ?_
  · walk_at "sx"
    refine ⟨_, _, 0, p, _, _, _, _, _, rfl, s, rfl, by decide, b8000 (by decide), fun H2 x y z u r4 a4 b4 s => ?_⟩
    simp only [List.set_cons_zero] at s
    walk_at "sx"
    refine x_if (fun h => ?_) (fun h => ?_)
    · walk_at "sx"
      exact ⟨_, _, _, _, _, _, _, rfl, by decide, by decide, by decide, s⟩
    · walk_at "sx"
      exact ⟨_, _, _, _, _, _, _, rfl, by omega, by omega, by omega, s⟩
  rintro σ' H' ⟨cues, replies, states, x, y, z, u, rfl, hc, hr, hst, s⟩
  walk_at "sx"
  refine ⟨_, _, 0, p, _, _, _, _, _, rfl, s, rfl, by omega, b8000 (by omega), fun H2 x y z u origin a5 b5 s => ?_⟩
  simp only [List.set_cons_zero] at s
  walk_at "sx"
  refine ⟨_, _, 0, p, _, _, _, _, _, rfl, s, rfl, by decide, b8000 (by decide), fun H2 x y z u r6 a6 b6 s => ?_⟩
  simp only [List.set_cons_zero] at s
  walk_at "sx"
  refine x_cut (fun σ' H' => ∃ many x y z u : Int, σ' = [some (.ref a), some (.ref p), some (.int cues), some (.int replies), some (.int states), some (.int origin), some (.int many), none, none, none, none, none, none, none, none, none, none, none, none, none] ∧ (0 ≤ many ∧ many < 20000) ∧ S (fun B => SqL K B a (ns.map V.int)) [(p, pl x y z u)] H') ?_ ?_
  · walk_at "sx"
    refine ⟨_, _, 0, p, _, _, _, _, _, rfl, s, rfl, by decide, b8000 (by decide), fun H2 x y z u r4 a4 b4 s => ?_⟩
    simp only [List.set_cons_zero] at s
    walk_at "sx"
    refine x_if (fun h => ?_) (fun h => ?_)
    · walk_at "sx"
      refine ⟨_, _, 0, p, _, _, _, _, _, rfl, s, rfl, by decide, b8000 (by decide), fun H2 x y z u r5 a5 b5 s => ?_⟩
      simp only [List.set_cons_zero] at s
      walk_at "sx"
      exact ⟨_, _, _, _, _, rfl, by omega, s⟩
    · walk_at "sx"
      exact ⟨_, _, _, _, _, rfl, by omega, s⟩
  rintro σ' H' ⟨many, x, y, z, u, rfl, hm, s⟩
  walk_at "sx"
  refine ⟨_, _, 0, p, _, _, _, _, _, rfl, s, rfl, by decide, b8000 (by decide), fun H2 x y z u r7 a7 b7 s => ?_⟩
  simp only [List.set_cons_zero] at s
  walk_at "sx"
  generalize decide (r7 = 1) = tp
  refine ⟨_, _, a, ns, _, cues, replies, states, rfl, s, fun B h => h, by decide, hc, hr, hst, fun rp H3 rows rl rok s => ?_⟩
  walk_at "sx"
  refine ⟨_, _, a, ns, _, cues, replies, states, rfl, s, fun B h => h.2, by decide, hc, hr, hst, fun op H4 other ol ook s => ?_⟩
  walk_at "sx"
  refine x_listRows (b := true) (fun B h => h.2.1) s fun l1 H5 s => ?_
  walk_at "sx"
  have g1 : GoodC cues replies rows origin := good_of hc hr hst rl ⟨a5, b5⟩ rok
  refine ⟨rfl, rfl, x_ctl (b := true) (c := ⟨cues, replies, rows, origin⟩) (fun _ => rfl) s (fun B h => h.1) g1 fun x1 H6 s => ?_⟩
  walk_at "sx"
  refine x_tupRows (b := true) (fun B h => h.2.2.1) s fun l2 H7 s => ?_
  walk_at "sx"
  have g2 : GoodC cues replies other (states - 1 - origin) := good_of hc hr hst ol (by omega) ook
  refine ⟨rfl, rfl, x_ctl (b := false) (c := ⟨cues, replies, other, states - 1 - origin⟩) (fun _ => rfl) s (fun B h => h.1) g2 fun x2 H8 s => ?_⟩
  walk_at "sx"
  refine ⟨a, ns, _, rfl, s.fact.2.2.2.2.2.2, by decide, fun p2 H9 x2' y2 z2 u2 h1 h2 h3 => ?_⟩
  have s := s.new h1 h2 h3
  walk_at "sx"
  refine ⟨_, _, 0, p2, _, _, _, _, cues, many, rfl, s, rfl, hc, by omega, fun f H10 x3 y3 z3 u3 fs fl fok s => ?_⟩
  have s := (s.freezeL (K := K)).drop1.drop1
  walk_at "sx"
  refine ⟨a, ns, _, rfl, s.fact.2.2.2.2.2.2.2, by decide, fun p3 H11 x4 y4 z4 u4 h1 h2 h3 => ?_⟩
  have s := s.new h1 h2 h3
  have s : S (fun B => SqL K B f (fs.map V.int) ∧ Ctl K B x1 ⟨cues, replies, rows, origin⟩ ∧ Ctl K B x2 ⟨cues, replies, other, states - 1 - origin⟩ ∧ RowsB true K B rp rows ∧ RowsB true K B op other) [(p3, pl x4 y4 z4 u4)] H11 :=
    s.imp fun B h => ⟨h.1, h.2.2.2.1, h.2.1, h.2.2.2.2.2.2.1, h.2.2.2.2.2.1⟩
  walk_at "sx"
  refine x_forR1 (n := 2) rfl (by decide) (fun i σ' H' => ∃ v13, σ' = [some (.ref a), some (.ref p3), some (.int cues), some (.int replies), some (.int states), some (.int origin), some (.int many), some (.bl tp), some (.ref rp), some (.ref op), some (.ref x1), some (.ref x2), some (.ref f), v13, none, none, none, none, none, none] ∧ S (fun B => SqL K B f (fs.map V.int) ∧ Ctl K B x1 ⟨cues, replies, rows, origin⟩ ∧ Ctl K B x2 ⟨cues, replies, other, states - 1 - origin⟩ ∧ RowsB true K B rp rows ∧ RowsB true K B op other) [(p3, pl x4 y4 z4 u4)] H') ⟨_, rfl, s⟩ ?_ ?_
  · rintro i σ' H' hi ⟨v13, rfl, s⟩
    walk_at "sx"
    refine ⟨_, _, x1, rp, f, true, ⟨cues, replies, rows, origin⟩, fs, tp, rfl, s, fun B h => ⟨h.2.1, h.2.2.2.1, h.1⟩, g1, fok, by omega, fun H1 s => ?_⟩
    walk_at "sx"
    obtain ⟨gs, e, gm, gl⟩ := cut_ints fs (some (i : Nat)) none
    refine x_slL s.fact.1 s fun fc H2 s => ?_
    rw [e] at s
    have s := s.freezeL (K := K)
    walk_at "sx"
    refine ⟨_, _, x2, op, fc, true, ⟨cues, replies, other, states - 1 - origin⟩, gs, !tp, rfl, s, fun B h => ⟨h.2.2.2.1, h.2.2.2.2.2, h.1⟩, g2, fun n hn => fok n (gm n hn), by omega, fun H1 s => ?_⟩
    walk_at "sx"
    exact ⟨_, rfl, s.imp fun B h => h.2⟩
  rintro σ' H' ⟨v13, rfl, s⟩
  walk_at "sx"
  refine ⟨_, _, 0, p3, _, _, _, _, _, rfl, s, rfl, by omega, b8000 (by omega), fun H2 x y z u st a8 b8 s => ?_⟩
  simp only [List.set_cons_zero] at s
  walk_at "sx"
  refine x_startedM s.fact.2.1 ?_
  walk_at "sx"
  refine ⟨_, _, x1, ⟨cues, replies, rows, origin⟩, st, rfl, s, fun B h => h.2.1, g1, ⟨a8, by show st < (rows.length : Int); omega⟩, fun xs H3 s => ?_⟩
  walk_at "sx"
  obtain ⟨gs, e, gm, gl⟩ := cut_ints fs none (some 30)
  refine x_slL s.fact.2.1 s fun fc H4 s => ?_
  rw [e] at s
  have s := s.freezeL (K := K)
  walk_at "sx"
  refine ⟨_, _, xs, rp, fc, true, ⟨cues, replies, rows, st⟩, gs, tp, rfl, s, fun B h => ⟨h.2.1, h.2.2.2.2.2.1, h.1⟩, ⟨g1.c, g1.r, g1.s, ⟨a8, by show st < (rows.length : Int); omega⟩, g1.row⟩, fun n hn => fok n (gm n hn), by omega, fun H1 s => ?_⟩
  have s := s.imp fun B h => h.2.2
  walk_at "sx"
  refine x_newL (by simp) s fun en H5 s => ?_
  have s := s.freezeL (K := K)
  walk_at "sx"
  refine ⟨_, _, x1, rp, en, true, ⟨cues, replies, rows, origin⟩, [], tp, rfl, s, fun B h => ⟨h.2.2.1, h.2.2.2.2.1, h.1⟩, g1, fun n hn => (nomatch hn), by decide, fun H1 s => ?_⟩
  have s := s.imp fun B h => h.2
  walk_at "sx"
  refine ⟨_, _, 0, p3, _, _, _, _, _, rfl, s, rfl, by decide, b8000 (by decide), fun H2 x y z u r9 a9 b9 s => ?_⟩
  simp only [List.set_cons_zero] at s
  walk_at "sx"
  refine x_if (fun h => ?_) (fun h => ?_)
  · walk_at "sx"
    exact q _
  walk_at "sx"
  refine ⟨_, _, 0, p3, f, _, _, _, _, cues, fs, rfl, s, rfl, fun B h => h.1, by omega, fun fl2 H6 x y z u ms s ml => ?_⟩
  simp only [List.set_cons_zero] at s
  have s := s.freezeL (K := K)
  walk_at "sx"
  refine ff_ok s.fact.1 (by omega) fun v hv => ?_
  walk_at "sx"
  refine x_forR1 (n := 3) rfl (by decide) (fun i σ' H' => ∃ v17 v18 v19, σ' = [some (.ref a), some (.ref p3), some (.int cues), some (.int replies), some (.int states), some (.int origin), some (.int many), some (.bl tp), some (.ref rp), some (.ref op), some (.ref x1), some (.ref x2), some (.ref f), v13, some (.int st), some (.ref fl2), some v, v17, v18, v19] ∧
    S (fun B => SqB true K B fl2 (ms.map V.int) ∧ SqL K B f (fs.map V.int) ∧ Ctl K B x1 ⟨cues, replies, rows, origin⟩ ∧ Ctl K B x2 ⟨cues, replies, other, states - 1 - origin⟩ ∧ RowsB true K B rp rows ∧ RowsB true K B op other) [(p3, pl x y z u)] H') ⟨_, _, _, rfl, s⟩ ?_ ?_
  · rintro i σ' H' hi ⟨v17, v18, v19, rfl, s⟩
    walk_at "sx"
    refine x_listof (.inl s.fact.1) s fun gv H7 s => ?_
    have s := s.freezeL (K := K)
    walk_at "sx"
    rcases hv with ⟨rfl, ok⟩ | ⟨j, rfl, hb⟩
    · refine asked_ok (b := true) s ⟨fun B h => ⟨h.2.2.2.1, h.1⟩, g1, by omega⟩ ok i fun q2 H8 told => ?_
      have s : S (fun B => SqB true K B gv (ms.map V.int) ∧ SqB true K B fl2 (ms.map V.int) ∧ SqL K B f (fs.map V.int) ∧ Ctl K B x1 ⟨cues, replies, rows, origin⟩ ∧ Ctl K B x2 ⟨cues, replies, other, states - 1 - origin⟩ ∧ RowsB true K B rp rows ∧ RowsB true K B op other) [(p3, pl x y z u)] H8 := by
        rcases told with ⟨_, l, s⟩ | ⟨_, s⟩
        · exact s.drop1.drop1
        · exact s.drop1
      walk_at "sx"
      refine x_ifn (fun h => absurd rfl h) (fun _ => ?_)
      walk_at "sx"
      refine x_neInts s.fact.1 s.fact.2.1 ?_
      walk_at "sx"
      exact ⟨_, _, _, rfl, s.imp fun B h => h.2⟩
    · refine ⟨_, _, x1, gv, true, ⟨cues, replies, rows, origin⟩, ms, i, rfl, s, ⟨fun B h => ⟨h.2.2.2.1, h.1⟩, g1, by omega⟩, fun ok => (ok_not_bad ok hb).elim, fun j2 hj2 q2 H8 s => ?_⟩
      cases bad_uniq hb hj2
      walk_at "sx"
      refine x_ifn (fun _ => ?_) (fun h => nomatch h)
      walk_at "sx"
      refine x_newT (by simp) s fun e H9 s => ?_
      walk_at "sx"
      refine ⟨_, _, .tuple [.str "feed", .int (j : Nat)], rfl, .tup (sq_t (s.at 1 rfl)) (.cons (.str _) (.cons (.int _) .nil)), .tup (sq_t (s.at 0 rfl)) (.cons (.str _) (.cons (.int _) .nil)), fit_told1, ?_⟩
      have s := s.drop1.drop1
      walk_at "sx"
      refine x_neInts s.fact.1 s.fact.2.1 ?_
      walk_at "sx"
      exact ⟨_, _, _, rfl, s.imp fun B h => h.2⟩
  rintro σ' H' ⟨v17, v18, v19, rfl, s⟩
  walk_at "sx"
  obtain ⟨gs, e, gm, gl⟩ := cut_ints fs none (some 9)
  refine x_slL s.fact.2.1 s fun fc H4 s => ?_
  rw [e] at s
  have s := s.freezeL (K := K)
  walk_at "sx"
  exact ⟨_, _, x1, rp, fc, true, ⟨cues, replies, rows, origin⟩, gs, tp, rfl, s, fun B h => ⟨h.2.2.2.1, h.2.2.2.2.2.1, h.1⟩, g1, fun n hn => fok n (gm n hn), by omega, fun H1 s => q _⟩
/-! ## the text has them -/
theorem r_FeedError {P : Program} {w : World} {K : PySem.W.Frag} {mg : Str → Option Value} {base : Heap} (Z : Zz P w K mg base) : RaiseOk P w K mg base ed_FeedError ["self", "index"] := by
  obtain ⟨fd, F, doc, pm, cd, ct, cc, rfl⟩ := fn_err (p := "index") (w := w) (base := base) (Z.err 0 (d := ed_FeedError) rfl) Z.op Z.pf Z.pt (He.free_ok Z.X Z.G (Z.k.fact 59 (f := .free "super") rfl)) rfl rfl rfl (fun _ _ _ _ => rfl) (by decide +kernel) rfl ⟨by decide, by decide⟩
  exact ⟨_, F, Binds.all (fun us hl => match us, hl with | [_, _], _ => rfl), (He.glo_ok Z.X Z.G (Z.k.fact 25 (f := .glo "FeedError") rfl)), (Z.err 0 (d := ed_FeedError) rfl).ox, (Z.err 0 (d := ed_FeedError) rfl).init, (Z.err 0 (d := ed_FeedError) rfl).ty⟩
theorem e_FeedError {P : Program} {w : World} {K : PySem.W.Frag} {mg : Str → Option Value} {base : Heap} (Z : Zz P w K mg base) : ExcC K (He.ga K "FeedError") ∧ XfC K (He.ga K "FeedError") := ker_FeedError Z.k
theorem sc_is_entry : FnScope [("entry" : Str), "states", "replies", "following", "reply"] [("entry" : Str), "states", "replies"] (defScope s_is_entry) := ⟨rfl, rfl, rfl, by decide +kernel, rfl, by decide +kernel, by decide +kernel⟩
theorem o_is_entry {P : Program} {w : World} {K : PySem.W.Frag} {mg : Str → Option Value} {base : Heap} (Z : Zz P w K mg base) {fd : FuncData} (F : FunD K dd_is_entry.name dd_is_entry.qual dd_is_entry.params dd_is_entry.body dd_is_entry.scope (dd_is_entry.dvs K) (dd_is_entry.kws K) (He.fAd K dd_is_entry.at_) fd) : FnOk P w K mg base (L2.CX P w) 1 (He.fAd K dd_is_entry.at_) fd [("entry" : Str), "states", "replies"] (sp_is_entry K) := by
  refine F.ok sc_is_entry (fun vs H Q E h => ?_) (fun cdv A outer s H vs Q E hr h => ⟨t_is_entry K E, PSs.nox ?_, pure_is_entry Z.k vs H Q E h⟩)
  · obtain ⟨_, _, _, _, e, _⟩ := h; rw [e]; rfl
  · exact pss_cons (ps_asg (pv 0) (pg_tup rfl (pgs_cons (pg_name (i := 3) sc_is_entry.nd rfl (by first | exact Or.inl rfl | exact Or.inr rfl)) (pgs_cons (pg_name (i := 4) sc_is_entry.nd rfl (by first | exact Or.inl rfl | exact Or.inr rfl)) (pgs_nil))))) (pss_one (ps_ret (pe_and (pe_chain op_le op_lt (pe_int) (pv 3) (pv 1)) (pe_one (pe_chain op_le op_lt (pe_int) (pv 4) (pv 2))))))
theorem d_is_entry {P : Program} {w : World} {K : PySem.W.Frag} {mg : Str → Option Value} {base : Heap} (Z : Zz P w K mg base) : DefOk P w K mg base "_is_entry" 1 [("entry" : Str), "states", "replies"] [] (sp_is_entry K) := by
  obtain ⟨fd, F⟩ := Z.c.def_ 5 (d := dd_is_entry) rfl
  have b := F.bindsN (ps := [("entry" : Str), "states", "replies"]) fun _ _ _ _ _ _ us hl => match us, hl with | [_, _, _], _ => rfl
  exact ⟨_, fd, [], o_is_entry Z F, (He.glo_ok Z.X Z.G (Z.k.fact 48 (f := .glo "_is_entry") rfl)), F.kp, b, .nil⟩
theorem sc_Control__init : FnScope [("self" : Str), "cues", "replies", "rows", "start", "states", "state", "row", "entry"] [("self" : Str), "cues", "replies", "rows", "start"] (defScope s_Control__init) := ⟨rfl, rfl, rfl, by decide +kernel, rfl, by decide +kernel, by decide +kernel⟩
theorem o_Control__init {P : Program} {w : World} {K : PySem.W.Frag} {mg : Str → Option Value} {base : Heap} (Z : Zz P w K mg base) {fd : FuncData} (F : FunD K dd_Control__init.name dd_Control__init.qual dd_Control__init.params dd_Control__init.body dd_Control__init.scope (dd_Control__init.dvs K) (dd_Control__init.kws K) (He.fAd K dd_Control__init.at_) fd) : FnOk P w K mg base (L2.CX P w) 2 (He.fAd K dd_Control__init.at_) fd [("self" : Str), "cues", "replies", "rows", "start"] (sp_Control__init K) := by
  refine F.ok sc_Control__init (fun vs H Q E h => ?_) (fun cdv A outer s H vs Q E hr h => ⟨t_Control__init K E, PSs.nox ?_, pure_Control__init Z.k vs H Q E h⟩)
  · obtain ⟨_, _, _, _, _, _, _, _, e, _⟩ := h; rw [e]; rfl
  · exact pss_cons (ps_set (i := 5) sc_Control__init.nd rfl (by first | exact Or.inl rfl | exact Or.inr rfl) (pe_callB call_len1 (by rfl) (He.free_ok Z.X Z.G (Z.k.fact 7 (f := .free "len") rfl)) (by decide +kernel) (pa_cons (pv 3) (pa_nil)))) (pss_cons (ps_if (PW.pt (pw_or (pt_not (pt_chain op_le op_le (pe_int) (pv 1) (pe_con (pv 0) (by rfl)))) (pw_or1 (pt_not (pt_chain op_le op_le (pe_int) (pv 2) (pe_con (pv 0) (by rfl))))))) (pss_one (ps_never)) (pss_nil)) (pss_cons (ps_if (PW.pt (pw_or (pt_not (pt_chain op_le op_le (pe_int) (pv 5) (pe_con (pv 0) (by rfl)))) (pw_or1 (pt_not (pt_chain op_le op_lt (pe_int) (pv 4) (pv 5)))))) (pss_one (ps_never)) (pss_nil)) (pss_cons (ps_fld (pv 0) (pv 1) rfl) (pss_cons (ps_fld (pv 0) (pv 2) rfl) (pss_cons (ps_fld (pv 0) (pv 5) rfl) (pss_cons (ps_fld (pv 0) (pv 4) rfl) (pss_cons (ps_fld (pv 0) (pe_callTy call_tuple1 (by rfl) (He.free_ok Z.X Z.G (Z.k.fact 9 (f := .free "tuple") rfl)) (by decide +kernel) (pa_cons (pv 3) (pa_nil))) rfl) (pss_one (ps_for PassesOwn.never rfl (pi_enum1 (by rfl) (He.free_ok Z.X Z.G (Z.k.fact 1 (f := .free "enumerate") rfl)) (pa_cons (pe_fld (pv 0) (by rfl)) (pa_nil))) (pg_tup rfl (pgs_cons (pg_name (i := 6) sc_Control__init.nd rfl (by first | exact Or.inl rfl | exact Or.inr rfl)) (pgs_cons (pg_name (i := 7) sc_Control__init.nd rfl (by first | exact Or.inl rfl | exact Or.inr rfl)) (pgs_nil)))) (pss_one (ps_if (PW.pt (pw_or (pt_cmpR (op_ne1 (hu64 hr)) (pe_callB call_len1 (by rfl) (He.free_ok Z.X Z.G (Z.k.fact 7 (f := .free "len") rfl)) (by decide +kernel) (pa_cons (pv 7) (pa_nil))) (pv 1) (nomark _)) (pw_or1 (pt_not (pt_tr (pe_callB (cr_all rfl) (by rfl) (He.free_ok Z.X Z.G (Z.k.fact 8 (f := .free "all") rfl)) (by decide +kernel) (pa_cons (pe_lc (own := [("entry", 8)]) rfl sc_Control__init.nd (pi_sq1 (pv 7)) (blkOk_by (N := [("self" : Str), "cues", "replies", "rows", "start", "states", "state", "row", "entry"]) (sc := defScope s_Control__init) (by decide +kernel)) (fun _ _ _ _ _ => pg_name (i := 8) sc_Control__init.nd rfl (by first | exact Or.inl rfl | exact Or.inr rfl)) (fun _ _ _ _ _ => pts_nil) (fun _ _ _ _ _ => pe_def (d_is_entry Z) (hr.mono (by first | decide | exact Nat.le_refl _)) (by rfl) passL (pa_cons (pv 8) (pa_cons (pv 5) (pa_cons (pv 2) (pa_nil)))))) (pa_nil))) (by intro _; rfl)))))) (pss_one (ps_never)) (pss_nil))))))))))))
theorem mk_Control__init {P : Program} {w : World} {K : PySem.W.Frag} {mg : Str → Option Value} {base : Heap} (Z : Zz P w K mg base) : MakeOk P w K mg base "Control" 2 [("self" : Str), "cues", "replies", "rows", "start"] [V.int 0] (sp_Control__init K) := by
  obtain ⟨fd, F⟩ := Z.c.def_ 6 (d := dd_Control__init) rfl
  obtain ⟨ds, hv, b⟩ := F.binds0 (ps := [("self" : Str), "cues", "replies", "rows", "start"]) 4 (List.cons_ne_nil _ _) rfl fun D doc pm an cdv ct us ks h1 h2 => match us, ks, h1, h2 with | [_, _, _, _], [_], _, _ => by repeat (first | exact rfl | refine ⟨_, _, _, _, _, _, rfl, rfl, ?_⟩)
  exact ⟨fd, ds, (He.mkr_ok (Z.k.fact 12 (f := .mkr "Control") rfl)), (He.glo_ok Z.X Z.G (Z.k.fact 13 (f := .glo "Control") rfl)), o_Control__init Z F, b, hv⟩
theorem k_kb_Control__init_3_start {P : Program} {w : World} {K : PySem.W.Frag} {mg : Str → Option Value} {base : Heap} (Z : Zz P w K mg base) : MakeKw P w K mg base "Control" 2 [("self" : Str), "cues", "replies", "rows", "start"] 3 [("start" : Str)] g_kb_Control__init_3_start (sp_Control__init K) := by
  obtain ⟨fd, F⟩ := Z.c.def_ 6 (d := dd_Control__init) rfl
  obtain ⟨mv, hb⟩ := F.kbinds0 (ps := [("self" : Str), "cues", "replies", "rows", "start"]) 4 [("start" : Str)] [] (fun vs mz zs => vs ++ (zs)) (List.cons_ne_nil _ _) (by intro q hq; cases hq) (fun r1 r2 r3 => Vals.append r1 r3) (fun D doc pm an cdv ct us mv ws h1 h2 h3 => match us, mv, ws, h1, h2, h3 with
    | [_, _, _, _], [], [_], _, _, _ => by repeat (first | exact rfl | refine ⟨_, _, _, _, _, _, rfl, rfl, ?_⟩))
  exact ⟨fd, _, (He.mkr_ok (Z.k.fact 12 (f := .mkr "Control") rfl)), (He.glo_ok Z.X Z.G (Z.k.fact 13 (f := .glo "Control") rfl)), o_Control__init Z F, hb⟩
theorem sc_Control_entry : FnScope [("self" : Str), "state", "cue"] [("self" : Str), "state", "cue"] (defScope s_Control_entry) := ⟨rfl, rfl, rfl, by decide +kernel, rfl, by decide +kernel, by decide +kernel⟩
theorem o_Control_entry {P : Program} {w : World} {K : PySem.W.Frag} {mg : Str → Option Value} {base : Heap} (Z : Zz P w K mg base) {fd : FuncData} (F : FunD K dd_Control_entry.name dd_Control_entry.qual dd_Control_entry.params dd_Control_entry.body dd_Control_entry.scope (dd_Control_entry.dvs K) (dd_Control_entry.kws K) (He.fAd K dd_Control_entry.at_) fd) : FnOk P w K mg base (L2.CX P w) 1 (He.fAd K dd_Control_entry.at_) fd [("self" : Str), "state", "cue"] (sp_Control_entry K) := by
  refine F.ok sc_Control_entry (fun vs H Q E h => ?_) (fun cdv A outer s H vs Q E hr h => ⟨t_Control_entry K E, PSs.nox ?_, pure_Control_entry Z.k vs H Q E h⟩)
  · obtain ⟨_, _, _, _, e, _⟩ := h; rw [e]; rfl
  · exact pss_one (ps_ret (pe_ix ix_1 (pe_ix ix_1 (pe_fld (pv 0) (by rfl)) (pv 1) (fun _ _ => rfl)) (pv 2) (fun _ _ => rfl)))
theorem d_Control_entry {P : Program} {w : World} {K : PySem.W.Frag} {mg : Str → Option Value} {base : Heap} (Z : Zz P w K mg base) : MethOk P w K mg base (He.ga K "Control") "entry" 1 [("self" : Str), "state", "cue"] [] (sp_Control_entry K) := by
  obtain ⟨fd, F⟩ := Z.c.def_ 7 (d := dd_Control_entry) rfl
  have b := F.bindsN (ps := [("self" : Str), "state", "cue"]) fun _ _ _ _ _ _ us hl => match us, hl with | [_, _, _], _ => rfl
  exact ⟨fd, [], (He.cls_ok (Z.k.fact 2 (f := .cls "Control") rfl)), (He.meth_ok (Z.k.fact 5 (f := .meth "Control" "entry") rfl)), o_Control_entry Z F, b, .nil⟩
theorem sc_check_feed : FnScope [("cues" : Str), "feed", "index", "cue"] [("cues" : Str), "feed"] (defScope s_check_feed) := ⟨rfl, rfl, rfl, by decide +kernel, rfl, by decide +kernel, by decide +kernel⟩
theorem o_check_feed {P : Program} {w : World} {K : PySem.W.Frag} {mg : Str → Option Value} {base : Heap} (Z : Zz P w K mg base) {fd : FuncData} (F : FunD K dd_check_feed.name dd_check_feed.qual dd_check_feed.params dd_check_feed.body dd_check_feed.scope (dd_check_feed.dvs K) (dd_check_feed.kws K) (He.fAd K dd_check_feed.at_) fd) : FnOk P w K mg base (L2.CX P w) 3 (He.fAd K dd_check_feed.at_) fd [("cues" : Str), "feed"] (sp_check_feed K) := by
  refine F.ok sc_check_feed (fun vs H Q E h => ?_) (fun cdv A outer s H vs Q E hr h => ⟨t_check_feed K E, ?_, pure_check_feed Z.k vs H Q E h⟩)
  · obtain ⟨_, _, _, _, _, _, e, _⟩ := h; rw [e]; rfl
  · exact pss_one (ps_for (passes_of rfl) rfl (pi_enum1 (by rfl) (He.free_ok Z.X Z.G (Z.k.fact 1 (f := .free "enumerate") rfl)) (pa_cons (pv 1) (pa_nil))) (pg_tup rfl (pgs_cons (pg_name (i := 2) sc_check_feed.nd rfl (by first | exact Or.inl rfl | exact Or.inr rfl)) (pgs_cons (pg_name (i := 3) sc_check_feed.nd rfl (by first | exact Or.inl rfl | exact Or.inr rfl)) (pgs_nil)))) (pss_one (ps_if (pt_not (pt_chain op_le op_lt (pe_int) (pv 3) (pv 0))) (pss_one (ps_raiseM rfl (r_FeedError Z) (hr.mono (by decide)) (takes_of rfl rfl rfl rfl) (passes_call (takes_of rfl rfl rfl rfl) fun _ _ _ _ h => h.elim) rfl (by rfl) (pa_cons (pv 2) pa_nil))) (pss_nil))))
theorem d_check_feed {P : Program} {w : World} {K : PySem.W.Frag} {mg : Str → Option Value} {base : Heap} (Z : Zz P w K mg base) : DefOk P w K mg base "check_feed" 3 [("cues" : Str), "feed"] [] (sp_check_feed K) := by
  obtain ⟨fd, F⟩ := Z.c.def_ 0 (d := dd_check_feed) rfl
  have b := F.bindsN (ps := [("cues" : Str), "feed"]) fun _ _ _ _ _ _ us hl => match us, hl with | [_, _], _ => rfl
  exact ⟨_, fd, [], o_check_feed Z F, (He.glo_ok Z.X Z.G (Z.k.fact 43 (f := .glo "check_feed") rfl)), F.kp, b, .nil⟩
theorem sc_replies_from : FnScope [("control" : Str), "state", "feed", "replies", "current", "cue", "reply"] [("control" : Str), "state", "feed"] (defScope s_replies_from) := ⟨rfl, rfl, rfl, by decide +kernel, rfl, by decide +kernel, by decide +kernel⟩
theorem o_replies_from {P : Program} {w : World} {K : PySem.W.Frag} {mg : Str → Option Value} {base : Heap} (Z : Zz P w K mg base) {fd : FuncData} (F : FunD K dd_replies_from.name dd_replies_from.qual dd_replies_from.params dd_replies_from.body dd_replies_from.scope (dd_replies_from.dvs K) (dd_replies_from.kws K) (He.fAd K dd_replies_from.at_) fd) : FnOk P w K mg base (L2.CX P w) 2 (He.fAd K dd_replies_from.at_) fd [("control" : Str), "state", "feed"] (sp_replies_from K) := by
  refine F.ok sc_replies_from (fun vs H Q E h => ?_) (fun cdv A outer s H vs Q E hr h => ⟨t_replies_from K E, PSs.nox ?_, pure_replies_from Z.k vs H Q E h⟩)
  · obtain ⟨_, _, _, _, _, _, _, _, e, _⟩ := h; rw [e]; rfl
  · exact pss_cons (ps_set (i := 3) sc_replies_from.nd rfl (by first | exact Or.inl rfl | exact Or.inr rfl) (pe_lst (pa_nil))) (pss_cons (ps_set (i := 4) sc_replies_from.nd rfl (by first | exact Or.inl rfl | exact Or.inr rfl) (pv 1)) (pss_cons (ps_for PassesOwn.never rfl (pi_sq1 (pv 2)) (pg_name (i := 5) sc_replies_from.nd rfl (by first | exact Or.inl rfl | exact Or.inr rfl)) (pss_cons (ps_asg (pe_methM (d_Control_entry Z) (hr.mono (by first | decide | exact Nat.le_refl _)) passL (pv 0) (pa_cons (pv 4) (pa_cons (pv 5) (pa_nil)))) (pg_tup rfl (pgs_cons (pg_name (i := 4) sc_replies_from.nd rfl (by first | exact Or.inl rfl | exact Or.inr rfl)) (pgs_cons (pg_name (i := 6) sc_replies_from.nd rfl (by first | exact Or.inl rfl | exact Or.inr rfl)) (pgs_nil))))) (pss_one (ps_expr (pe_bm PySem.F.plainAttrs_list PySem.F.slot_list_append PySem.F.type_list_append mt_append (pv 3) (pa_cons (pv 6) (pa_nil))))))) (pss_one (ps_ret (pv 3)))))
theorem d_replies_from {P : Program} {w : World} {K : PySem.W.Frag} {mg : Str → Option Value} {base : Heap} (Z : Zz P w K mg base) : DefOk P w K mg base "replies_from" 2 [("control" : Str), "state", "feed"] [] (sp_replies_from K) := by
  obtain ⟨fd, F⟩ := Z.c.def_ 2 (d := dd_replies_from) rfl
  have b := F.bindsN (ps := [("control" : Str), "state", "feed"]) fun _ _ _ _ _ _ us hl => match us, hl with | [_, _, _], _ => rfl
  exact ⟨_, fd, [], o_replies_from Z F, (He.glo_ok Z.X Z.G (Z.k.fact 45 (f := .glo "replies_from") rfl)), F.kp, b, .nil⟩
theorem sc_replies_to : FnScope [("control" : Str), "feed"] [("control" : Str), "feed"] (defScope s_replies_to) := ⟨rfl, rfl, rfl, by decide +kernel, rfl, by decide +kernel, by decide +kernel⟩
theorem o_replies_to {P : Program} {w : World} {K : PySem.W.Frag} {mg : Str → Option Value} {base : Heap} (Z : Zz P w K mg base) {fd : FuncData} (F : FunD K dd_replies_to.name dd_replies_to.qual dd_replies_to.params dd_replies_to.body dd_replies_to.scope (dd_replies_to.dvs K) (dd_replies_to.kws K) (He.fAd K dd_replies_to.at_) fd) : FnOk P w K mg base (L2.CX P w) 4 (He.fAd K dd_replies_to.at_) fd [("control" : Str), "feed"] (sp_replies_to K) := by
  refine F.ok sc_replies_to (fun vs H Q E h => ?_) (fun cdv A outer s H vs Q E hr h => ⟨t_replies_to K E, ?_, pure_replies_to Z.k vs H Q E h⟩)
  · obtain ⟨_, _, _, _, _, _, _, e, _⟩ := h; rw [e]; rfl
  · exact pss_cons (ps_expr (pe_def (d_check_feed Z) (hr.mono (by first | decide | exact Nat.le_refl _)) (by rfl) (passes_call (takes_of rfl rfl rfl rfl) fun _ _ _ _ h => h) (pa_cons (pe_fld (pv 0) (by rfl)) (pa_cons (pv 1) (pa_nil))))) (pss_one (ps_ret (pe_def (d_replies_from Z) (hr.mono (by first | decide | exact Nat.le_refl _)) (by rfl) passL (pa_cons (pv 0) (pa_cons (pe_fld (pv 0) (by rfl)) (pa_cons (pv 1) (pa_nil)))))))
theorem d_replies_to {P : Program} {w : World} {K : PySem.W.Frag} {mg : Str → Option Value} {base : Heap} (Z : Zz P w K mg base) : DefOk P w K mg base "replies_to" 4 [("control" : Str), "feed"] [] (sp_replies_to K) := by
  obtain ⟨fd, F⟩ := Z.c.def_ 1 (d := dd_replies_to) rfl
  have b := F.bindsN (ps := [("control" : Str), "feed"]) fun _ _ _ _ _ _ us hl => match us, hl with | [_, _], _ => rfl
  exact ⟨_, fd, [], o_replies_to Z F, (He.glo_ok Z.X Z.G (Z.k.fact 44 (f := .glo "replies_to") rfl)), F.kp, b, .nil⟩
theorem sc_visits : FnScope [("control" : Str), "feed", "states", "cue"] [("control" : Str), "feed"] (defScope s_visits) := ⟨rfl, rfl, rfl, by decide +kernel, rfl, by decide +kernel, by decide +kernel⟩
theorem o_visits {P : Program} {w : World} {K : PySem.W.Frag} {mg : Str → Option Value} {base : Heap} (Z : Zz P w K mg base) {fd : FuncData} (F : FunD K dd_visits.name dd_visits.qual dd_visits.params dd_visits.body dd_visits.scope (dd_visits.dvs K) (dd_visits.kws K) (He.fAd K dd_visits.at_) fd) : FnOk P w K mg base (L2.CX P w) 4 (He.fAd K dd_visits.at_) fd [("control" : Str), "feed"] (sp_visits K) := by
  refine F.ok sc_visits (fun vs H Q E h => ?_) (fun cdv A outer s H vs Q E hr h => ⟨t_visits K E, ?_, pure_visits Z.k vs H Q E h⟩)
  · obtain ⟨_, _, _, _, _, _, _, e, _⟩ := h; rw [e]; rfl
  · exact pss_cons (ps_expr (pe_def (d_check_feed Z) (hr.mono (by first | decide | exact Nat.le_refl _)) (by rfl) (passes_call (takes_of rfl rfl rfl rfl) fun _ _ _ _ h => h) (pa_cons (pe_fld (pv 0) (by rfl)) (pa_cons (pv 1) (pa_nil))))) (pss_cons (ps_set (i := 2) sc_visits.nd rfl (by first | exact Or.inl rfl | exact Or.inr rfl) (pe_lst (pa_cons (pe_fld (pv 0) (by rfl)) (pa_nil)))) (pss_cons (ps_for (passes_of rfl) rfl (pi_sq1 (pv 1)) (pg_name (i := 3) sc_visits.nd rfl (by first | exact Or.inl rfl | exact Or.inr rfl)) (pss_one (ps_expr (pe_bm PySem.F.plainAttrs_list PySem.F.slot_list_append PySem.F.type_list_append mt_append (pv 2) (pa_cons (pe_ix ix_1 (pe_methM (d_Control_entry Z) (hr.mono (by first | decide | exact Nat.le_refl _)) passL (pv 0) (pa_cons (pe_ix ix_1 (pv 2) (pe_un un_neg1 (pe_int)) (fun _ _ => rfl)) (pa_cons (pv 3) (pa_nil)))) (pe_int) (fun _ _ => rfl)) (pa_nil)))))) (pss_one (ps_ret (pv 2)))))
theorem d_visits {P : Program} {w : World} {K : PySem.W.Frag} {mg : Str → Option Value} {base : Heap} (Z : Zz P w K mg base) : DefOk P w K mg base "visits" 4 [("control" : Str), "feed"] [] (sp_visits K) := by
  obtain ⟨fd, F⟩ := Z.c.def_ 3 (d := dd_visits) rfl
  have b := F.bindsN (ps := [("control" : Str), "feed"]) fun _ _ _ _ _ _ us hl => match us, hl with | [_, _], _ => rfl
  exact ⟨_, fd, [], o_visits Z F, (He.glo_ok Z.X Z.G (Z.k.fact 46 (f := .glo "visits") rfl)), F.kp, b, .nil⟩
theorem sc_state_after : FnScope [("control" : Str), "feed"] [("control" : Str), "feed"] (defScope s_state_after) := ⟨rfl, rfl, rfl, by decide +kernel, rfl, by decide +kernel, by decide +kernel⟩
theorem o_state_after {P : Program} {w : World} {K : PySem.W.Frag} {mg : Str → Option Value} {base : Heap} (Z : Zz P w K mg base) {fd : FuncData} (F : FunD K dd_state_after.name dd_state_after.qual dd_state_after.params dd_state_after.body dd_state_after.scope (dd_state_after.dvs K) (dd_state_after.kws K) (He.fAd K dd_state_after.at_) fd) : FnOk P w K mg base (L2.CX P w) 5 (He.fAd K dd_state_after.at_) fd [("control" : Str), "feed"] (sp_state_after K) := by
  refine F.ok sc_state_after (fun vs H Q E h => ?_) (fun cdv A outer s H vs Q E hr h => ⟨t_state_after K E, ?_, pure_state_after Z.k vs H Q E h⟩)
  · obtain ⟨_, _, _, _, _, _, _, e, _⟩ := h; rw [e]; rfl
  · exact pss_one (ps_ret (pe_ix ix_1 (pe_def (d_visits Z) (hr.mono (by first | decide | exact Nat.le_refl _)) (by rfl) (passes_call (takes_of rfl rfl rfl rfl) fun _ _ _ _ h => h) (pa_cons (pv 0) (pa_cons (pv 1) (pa_nil)))) (pe_un un_neg1 (pe_int)) (fun _ _ => rfl)))
theorem d_state_after {P : Program} {w : World} {K : PySem.W.Frag} {mg : Str → Option Value} {base : Heap} (Z : Zz P w K mg base) : DefOk P w K mg base "state_after" 5 [("control" : Str), "feed"] [] (sp_state_after K) := by
  obtain ⟨fd, F⟩ := Z.c.def_ 4 (d := dd_state_after) rfl
  have b := F.bindsN (ps := [("control" : Str), "feed"]) fun _ _ _ _ _ _ us hl => match us, hl with | [_, _], _ => rfl
  exact ⟨_, fd, [], o_state_after Z F, (He.glo_ok Z.X Z.G (Z.k.fact 47 (f := .glo "state_after") rfl)), F.kp, b, .nil⟩
theorem sc_Control_started : FnScope [("self" : Str), "state"] [("self" : Str), "state"] (defScope s_Control_started) := ⟨rfl, rfl, rfl, by decide +kernel, rfl, by decide +kernel, by decide +kernel⟩
theorem o_Control_started {P : Program} {w : World} {K : PySem.W.Frag} {mg : Str → Option Value} {base : Heap} (Z : Zz P w K mg base) {fd : FuncData} (F : FunD K dd_Control_started.name dd_Control_started.qual dd_Control_started.params dd_Control_started.body dd_Control_started.scope (dd_Control_started.dvs K) (dd_Control_started.kws K) (He.fAd K dd_Control_started.at_) fd) : FnOk P w K mg base (L2.CX P w) 4 (He.fAd K dd_Control_started.at_) fd [("self" : Str), "state"] (sp_Control_started K) := by
  refine F.ok sc_Control_started (fun vs H Q E h => ?_) (fun cdv A outer s H vs Q E hr h => ⟨t_Control_started K E, PSs.nox ?_, pure_Control_started Z.k vs H Q E h⟩)
  · obtain ⟨_, _, _, _, _, e, _⟩ := h; rw [e]; rfl
  · exact pss_cons (ps_if (pt_not (pt_chain op_le op_lt (pe_int) (pv 1) (pe_fld (pv 0) (by rfl)))) (pss_one (ps_never)) (pss_nil)) (pss_one (ps_ret (pe_makeMK (k_kb_Control__init_3_start Z) (hr.mono (by first | decide | exact Nat.le_refl _)) (by rfl) passL (pa_cons (pe_fld (pv 0) (by rfl)) (pa_cons (pe_fld (pv 0) (by rfl)) (pa_cons (pe_fld (pv 0) (by rfl)) (pa_nil)))) (pk_cons (pv 1) (pk_nil)))))
theorem d_Control_started {P : Program} {w : World} {K : PySem.W.Frag} {mg : Str → Option Value} {base : Heap} (Z : Zz P w K mg base) : MethOk P w K mg base (He.ga K "Control") "started" 4 [("self" : Str), "state"] [] (sp_Control_started K) := by
  obtain ⟨fd, F⟩ := Z.c.def_ 8 (d := dd_Control_started) rfl
  have b := F.bindsN (ps := [("self" : Str), "state"]) fun _ _ _ _ _ _ us hl => match us, hl with | [_, _], _ => rfl
  exact ⟨fd, [], (He.cls_ok (Z.k.fact 2 (f := .cls "Control") rfl)), (He.meth_ok (Z.k.fact 42 (f := .meth "Control" "started") rfl)), o_Control_started Z F, b, .nil⟩
theorem sc_law_pool : FnScope [("script" : Str), "place", "cell"] [("script" : Str), "place"] (defScope s_law_pool) := ⟨rfl, rfl, rfl, by decide +kernel, rfl, by decide +kernel, by decide +kernel⟩
theorem o_law_pool {P : Program} {w : World} {K : PySem.W.Frag} {mg : Str → Option Value} {base : Heap} (Z : Zz P w K mg base) {fd : FuncData} (F : FunD K dd_law_pool.name dd_law_pool.qual dd_law_pool.params dd_law_pool.body dd_law_pool.scope (dd_law_pool.dvs K) (dd_law_pool.kws K) (He.fAd K dd_law_pool.at_) fd) : FnOk P w K mg base (L2.CX P w) 1 (He.fAd K dd_law_pool.at_) fd [("script" : Str), "place"] (sp_law_pool K) := by
  refine F.ok sc_law_pool (fun vs H Q E h => ?_) (fun cdv A outer s H vs Q E hr h => ⟨t_law_pool K E, PSs.nox ?_, pure_law_pool Z.k vs H Q E h⟩)
  · obtain ⟨_, _, _, e, _⟩ := h; rw [e]; rfl
  · exact pss_cons (ps_if (pt_cmpR (op_eq1 (hu64 hr)) (pe_callB call_len1 (by rfl) (He.free_ok Z.X Z.G (Z.k.fact 7 (f := .free "len") rfl)) (by decide +kernel) (pa_cons (pv 0) (pa_nil))) (pe_int) (nomark _)) (pss_one (ps_ret (pe_lst (pa_cons (pe_int) (pa_cons (pe_int) (pa_cons (pe_int) (pa_cons (pe_int) (pa_nil)))))))) (pss_nil)) (pss_cons (ps_set (i := 2) sc_law_pool.nd rfl (by first | exact Or.inl rfl | exact Or.inr rfl) (pe_callB call_abs1 (by rfl) (He.free_ok Z.X Z.G (Z.k.fact 15 (f := .free "abs") rfl)) (by decide +kernel) (pa_cons (pe_ix ix_1 (pv 0) (pe_op op_mod1 (pe_callTy call_int_1 (by rfl) (He.free_ok Z.X Z.G (Z.k.fact 14 (f := .free "int") rfl)) (by decide +kernel) (pa_cons (pv 1) (pa_nil))) (pe_callB call_len1 (by rfl) (He.free_ok Z.X Z.G (Z.k.fact 7 (f := .free "len") rfl)) (by decide +kernel) (pa_cons (pv 0) (pa_nil)))) (fun _ _ => rfl)) (pa_nil)))) (pss_cons (ps_if (PW.pt (pw_and (pt_cmpR op_lt (pv 1) (pe_callB call_len1 (by rfl) (He.free_ok Z.X Z.G (Z.k.fact 7 (f := .free "len") rfl)) (by decide +kernel) (pa_cons (pv 0) (pa_nil))) (nomark _)) (pw_and1 (pt_cmpR op_ge (pv 2) (pe_op op_pow1 (pe_int) (pe_int)) (nomark _))))) (pss_one (ps_ret (pe_lst (pa_cons (pe_int) (pa_cons (pv 2) (pa_cons (pe_op op_mod1 (pe_callTy call_int_1 (by rfl) (He.free_ok Z.X Z.G (Z.k.fact 14 (f := .free "int") rfl)) (by decide +kernel) (pa_cons (pv 2) (pa_nil))) (pe_int)) (pa_cons (pe_int) (pa_nil)))))))) (pss_nil)) (pss_one (ps_ret (pe_lst (pa_cons (pe_int) (pa_cons (pe_int) (pa_cons (pe_op op_mod1 (pe_callTy call_int_1 (by rfl) (He.free_ok Z.X Z.G (Z.k.fact 14 (f := .free "int") rfl)) (by decide +kernel) (pa_cons (pe_op op_add1 (pv 2) (pe_op op_mul1 (pe_int) (pv 1))) (pa_nil))) (pe_int)) (pa_cons (pe_int) (pa_nil))))))))))
theorem d_law_pool {P : Program} {w : World} {K : PySem.W.Frag} {mg : Str → Option Value} {base : Heap} (Z : Zz P w K mg base) : DefOk P w K mg base "_law_pool" 1 [("script" : Str), "place"] [] (sp_law_pool K) := by
  obtain ⟨fd, F⟩ := Z.c.def_ 9 (d := dd_law_pool) rfl
  have b := F.bindsN (ps := [("script" : Str), "place"]) fun _ _ _ _ _ _ us hl => match us, hl with | [_, _], _ => rfl
  exact ⟨_, fd, [], o_law_pool Z F, (He.glo_ok Z.X Z.G (Z.k.fact 49 (f := .glo "_law_pool") rfl)), F.kp, b, .nil⟩
theorem sc_law_draw : FnScope [("pool" : Str), "many", "got", "x"] [("pool" : Str), "many"] (defScope s_law_draw) := ⟨rfl, rfl, rfl, by decide +kernel, rfl, by decide +kernel, by decide +kernel⟩
theorem o_law_draw {P : Program} {w : World} {K : PySem.W.Frag} {mg : Str → Option Value} {base : Heap} (Z : Zz P w K mg base) {fd : FuncData} (F : FunD K dd_law_draw.name dd_law_draw.qual dd_law_draw.params dd_law_draw.body dd_law_draw.scope (dd_law_draw.dvs K) (dd_law_draw.kws K) (He.fAd K dd_law_draw.at_) fd) : FnOk P w K mg base (L2.CX P w) 1 (He.fAd K dd_law_draw.at_) fd [("pool" : Str), "many"] (sp_law_draw K) := by
  refine F.ok sc_law_draw (fun vs H Q E h => ?_) (fun cdv A outer s H vs Q E hr h => ⟨t_law_draw K E, PSs.nox ?_, pure_law_draw Z.k vs H Q E h⟩)
  · obtain ⟨_, _, _, _, _, _, _, _, _, e, _⟩ := h; rw [e]; rfl
  · exact pss_cons (ps_asg (pe_op op_add1 (pe_ix ix_1 (pv 0) (pe_int) (fun _ _ => rfl)) (pe_int)) (pg_sub (pv 0) (pe_int) set_list)) (pss_cons (ps_if (pt_cmpR (op_eq1 (hu64 hr)) (pe_ix ix_1 (pv 0) (pe_int) (fun _ _ => rfl)) (pe_int) (nomark _)) (pss_one (ps_ret (pe_int))) (pss_nil)) (pss_cons (ps_if (PW.pt (pw_and (pt_cmpR (op_eq1 (hu64 hr)) (pe_ix ix_1 (pv 0) (pe_int) (fun _ _ => rfl)) (pe_int) (nomark _)) (pw_and (pt_cmpR op_le (pe_ix ix_1 (pv 0) (pe_int) (fun _ _ => rfl)) (pe_int) (nomark _)) (pw_and1 (pt_cmpR op_gt (pe_ix ix_1 (pv 0) (pe_int) (fun _ _ => rfl)) (pe_int) (nomark _)))))) (pss_cons (ps_set (i := 2) sc_law_draw.nd rfl (by first | exact Or.inl rfl | exact Or.inr rfl) (pe_op op_mod1 (pe_callTy call_int_1 (by rfl) (He.free_ok Z.X Z.G (Z.k.fact 14 (f := .free "int") rfl)) (by decide +kernel) (pa_cons (pe_ix ix_1 (pv 0) (pe_int) (fun _ _ => rfl)) (pa_nil))) (pv 1))) (pss_cons (ps_asg (pe_op op_fdivW (pe_ix ix_1 (pv 0) (pe_int) (fun _ _ => rfl)) (pv 1)) (pg_sub (pv 0) (pe_int) set_list)) (pss_one (ps_ret (pv 2))))) (pss_nil)) (pss_cons (ps_set (i := 3) sc_law_draw.nd rfl (by first | exact Or.inl rfl | exact Or.inr rfl) (pe_op op_mod1 (pe_callTy call_int_1 (by rfl) (He.free_ok Z.X Z.G (Z.k.fact 14 (f := .free "int") rfl)) (by decide +kernel) (pa_cons (pe_op op_add1 (pe_op op_add1 (pe_ix ix_1 (pv 0) (pe_int) (fun _ _ => rfl)) (pe_op op_mul1 (pe_int) (pe_ix ix_1 (pv 0) (pe_int) (fun _ _ => rfl)))) (pe_int)) (pa_nil))) (pe_int))) (pss_cons (ps_set (i := 3) sc_law_draw.nd rfl (by first | exact Or.inl rfl | exact Or.inr rfl) (pe_op op_mod1 (pe_callTy call_int_1 (by rfl) (He.free_ok Z.X Z.G (Z.k.fact 14 (f := .free "int") rfl)) (by decide +kernel) (pa_cons (pe_op op_add1 (pe_op op_add1 (pe_op op_mul1 (pv 3) (pv 3)) (pe_op op_mul1 (pe_int) (pe_ix ix_1 (pv 0) (pe_int) (fun _ _ => rfl)))) (pe_int)) (pa_nil))) (pe_int))) (pss_cons (ps_set (i := 3) sc_law_draw.nd rfl (by first | exact Or.inl rfl | exact Or.inr rfl) (pe_op op_mod1 (pe_callTy call_int_1 (by rfl) (He.free_ok Z.X Z.G (Z.k.fact 14 (f := .free "int") rfl)) (by decide +kernel) (pa_cons (pe_op op_add1 (pe_op op_add1 (pe_op op_mul1 (pv 3) (pv 3)) (pe_int)) (pe_ix ix_1 (pv 0) (pe_int) (fun _ _ => rfl))) (pa_nil))) (pe_int))) (pss_one (ps_ret (pe_op op_mod1 (pe_callTy call_int_1 (by rfl) (He.free_ok Z.X Z.G (Z.k.fact 14 (f := .free "int") rfl)) (by decide +kernel) (pa_cons (pe_op op_fdivW (pv 3) (pe_int)) (pa_nil))) (pv 1)))))))))
theorem d_law_draw {P : Program} {w : World} {K : PySem.W.Frag} {mg : Str → Option Value} {base : Heap} (Z : Zz P w K mg base) : DefOk P w K mg base "_law_draw" 1 [("pool" : Str), "many"] [] (sp_law_draw K) := by
  obtain ⟨fd, F⟩ := Z.c.def_ 10 (d := dd_law_draw) rfl
  have b := F.bindsN (ps := [("pool" : Str), "many"]) fun _ _ _ _ _ _ us hl => match us, hl with | [_, _], _ => rfl
  exact ⟨_, fd, [], o_law_draw Z F, (He.glo_ok Z.X Z.G (Z.k.fact 50 (f := .glo "_law_draw") rfl)), F.kp, b, .nil⟩
theorem sc_law_same : FnScope [("told" : Str), "due", "name", "k"] [("told" : Str), "due"] (defScope s_law_same) := ⟨rfl, rfl, rfl, by decide +kernel, rfl, by decide +kernel, by decide +kernel⟩
theorem d_law_same {P : Program} {w : World} {K : PySem.W.Frag} {mg : Str → Option Value} {base : Heap} (Z : Zz P w K mg base) : ∀ n : Nat, DefOk P w K mg base "_law_same" (n + 1) [("told" : Str), "due"] [] (sp_law_same n K) := by
  obtain ⟨fd, F⟩ := Z.c.def_ 11 (d := dd_law_same) rfl
  have b := F.bindsN (ps := [("told" : Str), "due"]) fun _ _ _ _ _ _ us hl => match us, hl with | [_, _], _ => rfl
  have key : ∀ (sp : Sp) (n m : Nat), DefOk P w K mg base "_law_same" m [("told" : Str), "due"] [] sp → (∀ vs H Q E i, n = i + 1 → sp_law_same i K vs H Q E → sp vs H Q E) → DefOk P w K mg base "_law_same" (m + 1) [("told" : Str), "due"] [] (sp_law_same n K) := by
    intro sp n m D hsp
    refine ⟨_, fd, [], F.ok sc_law_same (fun vs H Q E h => ?_) (fun cdv A outer s H vs Q E hr h => ⟨t_law_same K sp E, PSs.nox ?_, pure_law_same hsp vs H Q E h⟩), (He.glo_ok Z.X Z.G (Z.k.fact 51 (f := .glo "_law_same") rfl)), F.kp, b, .nil⟩
    · obtain ⟨_, _, _, e, _⟩ := h; rw [e]; rfl
    · exact pss_cons (ps_if (pt_cmpR op_is1 (pv 1) (pe_non) (nomark _)) (pss_one (ps_ret (pe_cmpR op_is1 (pv 0) (pe_non) (nomark _)))) (pss_nil)) (pss_cons (ps_if (pt_cmpR op_is1 (pv 1) (pe_bl) (nomark _)) (pss_one (ps_ret (pe_cmpR op_is1 (pv 0) (pe_bl) (nomark _)))) (pss_nil)) (pss_cons (ps_if (pt_cmpR op_is1 (pv 1) (pe_bl) (nomark _)) (pss_one (ps_ret (pe_cmpR op_is1 (pv 0) (pe_bl) (nomark _)))) (pss_nil)) (pss_cons (ps_if (pt_tr (pe_callB call_isi1 (by rfl) (He.free_ok Z.X Z.G (Z.k.fact 17 (f := .free "isinstance") rfl)) (by decide +kernel) (pa_cons (pv 1) (pa_cons (pe_bltn (v := .ty "int") (by rfl) (He.free_ok Z.X Z.G (Z.k.fact 14 (f := .free "int") rfl)) (by decide +kernel) rfl) (pa_nil)))) (by intro _; rfl)) (pss_one (ps_ret (pe_and (pe_callB call_isi1 (by rfl) (He.free_ok Z.X Z.G (Z.k.fact 17 (f := .free "isinstance") rfl)) (by decide +kernel) (pa_cons (pv 0) (pa_cons (pe_bltn (v := .ty "int") (by rfl) (He.free_ok Z.X Z.G (Z.k.fact 14 (f := .free "int") rfl)) (by decide +kernel) rfl) (pa_nil)))) (pe_and (pe_not (pe_callB call_isi1 (by rfl) (He.free_ok Z.X Z.G (Z.k.fact 17 (f := .free "isinstance") rfl)) (by decide +kernel) (pa_cons (pv 0) (pa_cons (pe_bltn (v := .ty "bool") (by rfl) (He.free_ok Z.X Z.G (Z.k.fact 21 (f := .free "bool") rfl)) (by decide +kernel) rfl) (pa_nil))))) (pe_one (pe_cmpR (op_eq1 (hu64 hr)) (pv 0) (pv 1) (nomark _))))))) (pss_nil)) (pss_cons (ps_if (pt_tr (pe_callB call_isi1 (by rfl) (He.free_ok Z.X Z.G (Z.k.fact 17 (f := .free "isinstance") rfl)) (by decide +kernel) (pa_cons (pv 1) (pa_cons (pe_bltn (v := .ty "str") (by rfl) (He.free_ok Z.X Z.G (Z.k.fact 20 (f := .free "str") rfl)) (by decide +kernel) rfl) (pa_nil)))) (by intro _; rfl)) (pss_one (ps_ret (pe_and (pe_callB call_isi1 (by rfl) (He.free_ok Z.X Z.G (Z.k.fact 17 (f := .free "isinstance") rfl)) (by decide +kernel) (pa_cons (pv 0) (pa_cons (pe_bltn (v := .ty "str") (by rfl) (He.free_ok Z.X Z.G (Z.k.fact 20 (f := .free "str") rfl)) (by decide +kernel) rfl) (pa_nil)))) (pe_one (pe_cmpR (op_eq1 (hu64 hr)) (pv 0) (pv 1) (nomark _)))))) (pss_nil)) (pss_cons (ps_if (pt_tr (pe_callB call_isi1 (by rfl) (He.free_ok Z.X Z.G (Z.k.fact 17 (f := .free "isinstance") rfl)) (by decide +kernel) (pa_cons (pv 1) (pa_cons (pe_bltn (v := .ty "dict") (by rfl) (He.free_ok Z.X Z.G (Z.k.fact 19 (f := .free "dict") rfl)) (by decide +kernel) rfl) (pa_nil)))) (by intro _; rfl)) (pss_cons (ps_if (PW.pt (pw_or (pt_not (pt_tr (pe_callB call_isi1 (by rfl) (He.free_ok Z.X Z.G (Z.k.fact 17 (f := .free "isinstance") rfl)) (by decide +kernel) (pa_cons (pv 0) (pa_cons (pe_bltn (v := .ty "dict") (by rfl) (He.free_ok Z.X Z.G (Z.k.fact 19 (f := .free "dict") rfl)) (by decide +kernel) rfl) (pa_nil)))) (by intro _; rfl))) (pw_or1 (pt_cmpR (op_ne1 (hu64 hr)) (pe_callB call_len1 (by rfl) (He.free_ok Z.X Z.G (Z.k.fact 7 (f := .free "len") rfl)) (by decide +kernel) (pa_cons (pv 0) (pa_nil))) (pe_callB call_len1 (by rfl) (He.free_ok Z.X Z.G (Z.k.fact 7 (f := .free "len") rfl)) (by decide +kernel) (pa_cons (pv 1) (pa_nil))) (nomark _))))) (pss_one (ps_ret (pe_bl))) (pss_nil)) (pss_cons (ps_for PassesOwn.never rfl (pi_sq1 (pv 1)) (pg_name (i := 2) sc_law_same.nd rfl (by first | exact Or.inl rfl | exact Or.inr rfl)) (pss_one (ps_if (PW.pt (pw_or (pt_cmpR op_notIn1 (pv 2) (pv 0) (by rfl)) (pw_or1 (pt_not (pt_tr (pe_def D (hr.mono (by first | decide | exact Nat.le_refl _)) (by rfl) passL (pa_cons (pe_ix ix_1 (pv 0) (pv 2) (fun _ _ => rfl)) (pa_cons (pe_ix ix_1 (pv 1) (pv 2) (fun _ _ => rfl)) (pa_nil)))) (by intro _; rfl)))))) (pss_one (ps_ret (pe_bl))) (pss_nil)))) (pss_one (ps_ret (pe_bl))))) (pss_nil)) (pss_cons (ps_if (PW.pt (pw_and (pt_tr (pe_callB call_isi1 (by rfl) (He.free_ok Z.X Z.G (Z.k.fact 17 (f := .free "isinstance") rfl)) (by decide +kernel) (pa_cons (pv 1) (pa_cons (pe_bltn (v := .ty "list") (by rfl) (He.free_ok Z.X Z.G (Z.k.fact 18 (f := .free "list") rfl)) (by decide +kernel) rfl) (pa_nil)))) (by intro _; rfl)) (pw_and1 (pt_not (pt_tr (pe_callB call_isi1 (by rfl) (He.free_ok Z.X Z.G (Z.k.fact 17 (f := .free "isinstance") rfl)) (by decide +kernel) (pa_cons (pv 0) (pa_cons (pe_bltn (v := .ty "list") (by rfl) (He.free_ok Z.X Z.G (Z.k.fact 18 (f := .free "list") rfl)) (by decide +kernel) rfl) (pa_nil)))) (by intro _; rfl)))))) (pss_one (ps_ret (pe_bl))) (pss_nil)) (pss_cons (ps_if (PW.pt (pw_and (pt_tr (pe_callB call_isi1 (by rfl) (He.free_ok Z.X Z.G (Z.k.fact 17 (f := .free "isinstance") rfl)) (by decide +kernel) (pa_cons (pv 1) (pa_cons (pe_bltn (v := .ty "tuple") (by rfl) (He.free_ok Z.X Z.G (Z.k.fact 9 (f := .free "tuple") rfl)) (by decide +kernel) rfl) (pa_nil)))) (by intro _; rfl)) (pw_and1 (pt_not (pt_tr (pe_callB call_isi1 (by rfl) (He.free_ok Z.X Z.G (Z.k.fact 17 (f := .free "isinstance") rfl)) (by decide +kernel) (pa_cons (pv 0) (pa_cons (pe_bltn (v := .ty "tuple") (by rfl) (He.free_ok Z.X Z.G (Z.k.fact 9 (f := .free "tuple") rfl)) (by decide +kernel) rfl) (pa_nil)))) (by intro _; rfl)))))) (pss_one (ps_ret (pe_bl))) (pss_nil)) (pss_cons (ps_if (pt_cmpR (op_ne1 (hu64 hr)) (pe_callB call_len1 (by rfl) (He.free_ok Z.X Z.G (Z.k.fact 7 (f := .free "len") rfl)) (by decide +kernel) (pa_cons (pv 0) (pa_nil))) (pe_callB call_len1 (by rfl) (He.free_ok Z.X Z.G (Z.k.fact 7 (f := .free "len") rfl)) (by decide +kernel) (pa_cons (pv 1) (pa_nil))) (nomark _)) (pss_one (ps_ret (pe_bl))) (pss_nil)) (pss_cons (ps_for PassesOwn.never rfl (pi_range1 (by rfl) (He.free_ok Z.X Z.G (Z.k.fact 16 (f := .free "range") rfl)) (pa_cons (pe_callB call_len1 (by rfl) (He.free_ok Z.X Z.G (Z.k.fact 7 (f := .free "len") rfl)) (by decide +kernel) (pa_cons (pv 1) (pa_nil))) (pa_nil))) (pg_name (i := 3) sc_law_same.nd rfl (by first | exact Or.inl rfl | exact Or.inr rfl)) (pss_one (ps_if (pt_not (pt_tr (pe_def D (hr.mono (by first | decide | exact Nat.le_refl _)) (by rfl) passL (pa_cons (pe_ix ix_1 (pv 0) (pv 3) (fun _ _ => rfl)) (pa_cons (pe_ix ix_1 (pv 1) (pv 3) (fun _ _ => rfl)) (pa_nil)))) (by intro _; rfl))) (pss_one (ps_ret (pe_bl))) (pss_nil)))) (pss_one (ps_ret (pe_bl))))))))))))
  intro n
  induction n with
  | zero => exact key (fun _ _ _ _ => False) 0 0 ⟨_, fd, [], ⟨fun _ _ _ _ h => h.elim, fun _ _ _ _ _ _ _ _ _ _ _ _ _ h => h.elim⟩, (He.glo_ok Z.X Z.G (Z.k.fact 51 (f := .glo "_law_same") rfl)), F.kp, b, .nil⟩ fun _ _ _ _ i h => nomatch h
  | succ n ih => exact key _ _ _ ih fun vs H Q E i h z => by cases h; exact z
theorem sc_law_rows : FnScope [("script" : Str), "place", "cues", "replies", "states", "rows", "s", "pool", "row", "c", "pick"] [("script" : Str), "place", "cues", "replies", "states"] (defScope s_law_rows) := ⟨rfl, rfl, rfl, by decide +kernel, rfl, by decide +kernel, by decide +kernel⟩
theorem o_law_rows {P : Program} {w : World} {K : PySem.W.Frag} {mg : Str → Option Value} {base : Heap} (Z : Zz P w K mg base) {fd : FuncData} (F : FunD K dd_law_rows.name dd_law_rows.qual dd_law_rows.params dd_law_rows.body dd_law_rows.scope (dd_law_rows.dvs K) (dd_law_rows.kws K) (He.fAd K dd_law_rows.at_) fd) : FnOk P w K mg base (L2.CX P w) 2 (He.fAd K dd_law_rows.at_) fd [("script" : Str), "place", "cues", "replies", "states"] (sp_law_rows K) := by
  refine F.ok sc_law_rows (fun vs H Q E h => ?_) (fun cdv A outer s H vs Q E hr h => ⟨t_law_rows K E, PSs.nox ?_, pure_law_rows Z.k vs H Q E h⟩)
  · obtain ⟨_, _, _, _, _, _, _, _, e, _⟩ := h; rw [e]; rfl
  · exact pss_cons (ps_set (i := 5) sc_law_rows.nd rfl (by first | exact Or.inl rfl | exact Or.inr rfl) (pe_lst (pa_nil))) (pss_cons (ps_for PassesOwn.never rfl (pi_range1 (by rfl) (He.free_ok Z.X Z.G (Z.k.fact 16 (f := .free "range") rfl)) (pa_cons (pv 4) (pa_nil))) (pg_name (i := 6) sc_law_rows.nd rfl (by first | exact Or.inl rfl | exact Or.inr rfl)) (pss_cons (ps_set (i := 7) sc_law_rows.nd rfl (by first | exact Or.inl rfl | exact Or.inr rfl) (pe_def (d_law_pool Z) (hr.mono (by first | decide | exact Nat.le_refl _)) (by rfl) passL (pa_cons (pv 0) (pa_cons (pe_op op_add1 (pv 1) (pv 6)) (pa_nil))))) (pss_cons (ps_set (i := 8) sc_law_rows.nd rfl (by first | exact Or.inl rfl | exact Or.inr rfl) (pe_lst (pa_nil))) (pss_cons (ps_for PassesOwn.never rfl (pi_range1 (by rfl) (He.free_ok Z.X Z.G (Z.k.fact 16 (f := .free "range") rfl)) (pa_cons (pv 2) (pa_nil))) (pg_name (i := 9) sc_law_rows.nd rfl (by first | exact Or.inl rfl | exact Or.inr rfl)) (pss_cons (ps_set (i := 10) sc_law_rows.nd rfl (by first | exact Or.inl rfl | exact Or.inr rfl) (pe_def (d_law_draw Z) (hr.mono (by first | decide | exact Nat.le_refl _)) (by rfl) passL (pa_cons (pv 7) (pa_cons (pe_op op_mul1 (pv 4) (pv 3)) (pa_nil))))) (pss_one (ps_expr (pe_bm PySem.F.plainAttrs_list PySem.F.slot_list_append PySem.F.type_list_append mt_append (pv 8) (pa_cons (pe_tup (pa_cons (pe_op op_fdivW (pv 10) (pv 3)) (pa_cons (pe_op op_mod1 (pe_callTy call_int_1 (by rfl) (He.free_ok Z.X Z.G (Z.k.fact 14 (f := .free "int") rfl)) (by decide +kernel) (pa_cons (pv 10) (pa_nil))) (pv 3)) (pa_nil)))) (pa_nil))))))) (pss_one (ps_expr (pe_bm PySem.F.plainAttrs_list PySem.F.slot_list_append PySem.F.type_list_append mt_append (pv 5) (pa_cons (pe_callTy call_tuple1 (by rfl) (He.free_ok Z.X Z.G (Z.k.fact 9 (f := .free "tuple") rfl)) (by decide +kernel) (pa_cons (pv 8) (pa_nil))) (pa_nil))))))))) (pss_one (ps_ret (pv 5))))
theorem d_law_rows {P : Program} {w : World} {K : PySem.W.Frag} {mg : Str → Option Value} {base : Heap} (Z : Zz P w K mg base) : DefOk P w K mg base "_law_rows" 2 [("script" : Str), "place", "cues", "replies", "states"] [] (sp_law_rows K) := by
  obtain ⟨fd, F⟩ := Z.c.def_ 12 (d := dd_law_rows) rfl
  have b := F.bindsN (ps := [("script" : Str), "place", "cues", "replies", "states"]) fun _ _ _ _ _ _ us hl => match us, hl with | [_, _, _, _, _], _ => rfl
  exact ⟨_, fd, [], o_law_rows Z F, (He.glo_ok Z.X Z.G (Z.k.fact 52 (f := .glo "_law_rows") rfl)), F.kp, b, .nil⟩
theorem sc_law_asked : FnScope [("way" : Str), "control", "feed", "got", "e", "kinds"] [("way" : Str), "control", "feed"] (defScope s_law_asked) := ⟨rfl, rfl, rfl, by decide +kernel, rfl, by decide +kernel, by decide +kernel⟩
theorem o_law_asked {P : Program} {w : World} {K : PySem.W.Frag} {mg : Str → Option Value} {base : Heap} (Z : Zz P w K mg base) {fd : FuncData} (F : FunD K dd_law_asked.name dd_law_asked.qual dd_law_asked.params dd_law_asked.body dd_law_asked.scope (dd_law_asked.dvs K) (dd_law_asked.kws K) (He.fAd K dd_law_asked.at_) fd) : FnOk P w K mg base (L2.CX P w) 6 (He.fAd K dd_law_asked.at_) fd [("way" : Str), "control", "feed"] (sp_law_asked K) := by
  refine F.ok sc_law_asked (fun vs H Q E h => ?_) (fun cdv A outer s H vs Q E hr h => ⟨t_law_asked K E, PSs.nox ?_, pure_law_asked Z.k vs H Q E h⟩)
  · obtain ⟨_, _, _, _, _, _, _, _, e, _⟩ := h; rw [e]; rfl
  · exact pss_cons (ps_set (i := 3) sc_law_asked.nd rfl (by first | exact Or.inl rfl | exact Or.inr rfl) (pe_tup (pa_cons (pe_str) (pa_cons (pe_int) (pa_nil))))) (pss_cons (ps_try_as (i := 4) rfl rfl sc_law_asked.nd rfl rfl ⟨by rfl, by decide, .inl (He.glo_ok Z.X Z.G (Z.k.fact 41 (f := .glo "FabricError") rfl))⟩ takes0 (fun W pn xe tkw po => pss_one (ps_if (pt_cmpR (op_eq1 (by have q := hu64 hr; exact q)) (pv 0) (pe_int) (nomark _)) (pss_one (ps_set (i := 3) sc_law_asked.nd rfl (by first | exact Or.inl rfl | exact Or.inr rfl) (pe_tup (pa_cons (pe_str) (pa_cons (pe_defT (d_replies_to Z) (hr.mono (by first | decide | exact Nat.le_refl _)) (by rfl) tkw (pa_cons (pv 1) (pa_cons (pv 2) (pa_nil)))) (pa_nil)))))) (pss_one (ps_if (pt_cmpR (op_eq1 (by have q := hu64 hr; exact q)) (pv 0) (pe_int) (nomark _)) (pss_one (ps_set (i := 3) sc_law_asked.nd rfl (by first | exact Or.inl rfl | exact Or.inr rfl) (pe_tup (pa_cons (pe_str) (pa_cons (pe_defT (d_visits Z) (hr.mono (by first | decide | exact Nat.le_refl _)) (by rfl) tkw (pa_cons (pv 1) (pa_cons (pv 2) (pa_nil)))) (pa_nil)))))) (pss_one (ps_set (i := 3) sc_law_asked.nd rfl (by first | exact Or.inl rfl | exact Or.inr rfl) (pe_tup (pa_cons (pe_str) (pa_cons (pe_defT (d_state_after Z) (hr.mono (by first | decide | exact Nat.le_refl _)) (by rfl) tkw (pa_cons (pv 1) (pa_cons (pv 2) (pa_nil)))) (pa_nil)))))))))) (fun a oe cls d pn hz hf => pss_cons (ps_set (i := 3) sc_law_asked.nd rfl (by first | exact Or.inl rfl | exact Or.inr rfl) (pe_tup (pa_cons (pe_str) (pa_cons (pe_int) (pa_nil))))) (pss_cons (ps_set (i := 5) sc_law_asked.nd rfl (by first | exact Or.inl rfl | exact Or.inr rfl) (pe_op op_add1 (pe_op op_add1 (pe_callTy call_int_1 (by rfl) (He.free_ok Z.X Z.G (Z.k.fact 14 (f := .free "int") rfl)) (by decide +kernel) (pa_cons (pe_callB (call_isED hz hf) (by rfl) (He.free_ok Z.X Z.G (Z.k.fact 17 (f := .free "isinstance") rfl)) (by decide +kernel) (pa_cons (pv 4) (pa_cons (pe_glob (by rfl) (He.glo_ok Z.X Z.G (Z.k.fact 27 (f := .glo "SizeError") rfl)) rfl) (pa_nil)))) (pa_nil))) (pe_callTy call_int_1 (by rfl) (He.free_ok Z.X Z.G (Z.k.fact 14 (f := .free "int") rfl)) (by decide +kernel) (pa_cons (pe_callB (call_isED hz hf) (by rfl) (He.free_ok Z.X Z.G (Z.k.fact 17 (f := .free "isinstance") rfl)) (by decide +kernel) (pa_cons (pv 4) (pa_cons (pe_glob (by rfl) (He.glo_ok Z.X Z.G (Z.k.fact 26 (f := .glo "ControlError") rfl)) rfl) (pa_nil)))) (pa_nil)))) (pe_callTy call_int_1 (by rfl) (He.free_ok Z.X Z.G (Z.k.fact 14 (f := .free "int") rfl)) (by decide +kernel) (pa_cons (pe_callB (call_isED hz hf) (by rfl) (He.free_ok Z.X Z.G (Z.k.fact 17 (f := .free "isinstance") rfl)) (by decide +kernel) (pa_cons (pv 4) (pa_cons (pe_glob (by rfl) (He.glo_ok Z.X Z.G (Z.k.fact 25 (f := .glo "FeedError") rfl)) rfl) (pa_nil)))) (pa_nil))))) (pss_cons (ps_set (i := 5) sc_law_asked.nd rfl (by first | exact Or.inl rfl | exact Or.inr rfl) (pe_op op_add1 (pe_op op_add1 (pv 5) (pe_callTy call_int_1 (by rfl) (He.free_ok Z.X Z.G (Z.k.fact 14 (f := .free "int") rfl)) (by decide +kernel) (pa_cons (pe_callB (call_isED hz hf) (by rfl) (He.free_ok Z.X Z.G (Z.k.fact 17 (f := .free "isinstance") rfl)) (by decide +kernel) (pa_cons (pv 4) (pa_cons (pe_glob (by rfl) (He.glo_ok Z.X Z.G (Z.k.fact 24 (f := .glo "ExchangeError") rfl)) rfl) (pa_nil)))) (pa_nil)))) (pe_callTy call_int_1 (by rfl) (He.free_ok Z.X Z.G (Z.k.fact 14 (f := .free "int") rfl)) (by decide +kernel) (pa_cons (pe_callB (call_isED hz hf) (by rfl) (He.free_ok Z.X Z.G (Z.k.fact 17 (f := .free "isinstance") rfl)) (by decide +kernel) (pa_cons (pv 4) (pa_cons (pe_tup (pa_cons (pe_glob (by rfl) (He.glo_ok Z.X Z.G (Z.k.fact 40 (f := .glo "BitsError") rfl)) rfl) (pa_cons (pe_glob (by rfl) (He.glo_ok Z.X Z.G (Z.k.fact 39 (f := .glo "MachineError") rfl)) rfl) (pa_cons (pe_glob (by rfl) (He.glo_ok Z.X Z.G (Z.k.fact 38 (f := .glo "ProgramError") rfl)) rfl) (pa_nil))))) (pa_nil)))) (pa_nil))))) (pss_cons (ps_set (i := 5) sc_law_asked.nd rfl (by first | exact Or.inl rfl | exact Or.inr rfl) (pe_op op_add1 (pv 5) (pe_callTy call_int_1 (by rfl) (He.free_ok Z.X Z.G (Z.k.fact 14 (f := .free "int") rfl)) (by decide +kernel) (pa_cons (pe_callB (call_isED hz hf) (by rfl) (He.free_ok Z.X Z.G (Z.k.fact 17 (f := .free "isinstance") rfl)) (by decide +kernel) (pa_cons (pv 4) (pa_cons (pe_tup (pa_cons (pe_glob (by rfl) (He.glo_ok Z.X Z.G (Z.k.fact 37 (f := .glo "CircuitError") rfl)) rfl) (pa_cons (pe_glob (by rfl) (He.glo_ok Z.X Z.G (Z.k.fact 36 (f := .glo "NetlistError") rfl)) rfl) (pa_cons (pe_glob (by rfl) (He.glo_ok Z.X Z.G (Z.k.fact 35 (f := .glo "FanoutError") rfl)) rfl) (pa_cons (pe_glob (by rfl) (He.glo_ok Z.X Z.G (Z.k.fact 34 (f := .glo "ColouringError") rfl)) rfl) (pa_cons (pe_glob (by rfl) (He.glo_ok Z.X Z.G (Z.k.fact 33 (f := .glo "EdgeError") rfl)) rfl) (pa_nil))))))) (pa_nil)))) (pa_nil))))) (pss_cons (ps_set (i := 5) sc_law_asked.nd rfl (by first | exact Or.inl rfl | exact Or.inr rfl) (pe_op op_add1 (pv 5) (pe_callTy call_int_1 (by rfl) (He.free_ok Z.X Z.G (Z.k.fact 14 (f := .free "int") rfl)) (by decide +kernel) (pa_cons (pe_callB (call_isED hz hf) (by rfl) (He.free_ok Z.X Z.G (Z.k.fact 17 (f := .free "isinstance") rfl)) (by decide +kernel) (pa_cons (pv 4) (pa_cons (pe_tup (pa_cons (pe_glob (by rfl) (He.glo_ok Z.X Z.G (Z.k.fact 32 (f := .glo "PathError") rfl)) rfl) (pa_cons (pe_glob (by rfl) (He.glo_ok Z.X Z.G (Z.k.fact 31 (f := .glo "TapeError") rfl)) rfl) (pa_cons (pe_glob (by rfl) (He.glo_ok Z.X Z.G (Z.k.fact 30 (f := .glo "StoreError") rfl)) rfl) (pa_cons (pe_glob (by rfl) (He.glo_ok Z.X Z.G (Z.k.fact 29 (f := .glo "HistoryError") rfl)) rfl) (pa_cons (pe_glob (by rfl) (He.glo_ok Z.X Z.G (Z.k.fact 28 (f := .glo "CommandError") rfl)) rfl) (pa_nil))))))) (pa_nil)))) (pa_nil))))) (C8.pss_cut (ps_if (PW.pt (pw_and (pt_cmpR (op_eq1 (by have q := hu64 hr; exact q)) (pv 5) (pe_int) (nomark _)) (pw_and (pt_tr (pe_callB (call_isED hz hf) (by rfl) (He.free_ok Z.X Z.G (Z.k.fact 17 (f := .free "isinstance") rfl)) (by decide +kernel) (pa_cons (pv 4) (pa_cons (pe_bltn (v := .ty "ValueError") (by rfl) (He.free_ok Z.X Z.G (Z.k.fact 23 (f := .free "ValueError") rfl)) (by decide +kernel) rfl) (pa_nil)))) (by intro _; rfl)) (pw_and1 (pt_tr (pe_callB (call_isED hz hf) (by rfl) (He.free_ok Z.X Z.G (Z.k.fact 17 (f := .free "isinstance") rfl)) (by decide +kernel) (pa_cons (pv 4) (pa_cons (pe_glob (by rfl) (He.glo_ok Z.X Z.G (Z.k.fact 27 (f := .glo "SizeError") rfl)) rfl) (pa_nil)))) (by intro _; rfl)))))) (pss_one (ps_set (i := 3) sc_law_asked.nd rfl (by first | exact Or.inl rfl | exact Or.inr rfl) (pe_tup (pa_cons (pe_str) (pa_cons (pe_nev) (pa_nil)))))) (pss_nil)) (C8.pss_cut (ps_if (PW.pt (pw_and (pt_cmpR (op_eq1 (by have q := hu64 hr; exact q)) (pv 5) (pe_int) (nomark _)) (pw_and (pt_tr (pe_callB (call_isED hz hf) (by rfl) (He.free_ok Z.X Z.G (Z.k.fact 17 (f := .free "isinstance") rfl)) (by decide +kernel) (pa_cons (pv 4) (pa_cons (pe_bltn (v := .ty "ValueError") (by rfl) (He.free_ok Z.X Z.G (Z.k.fact 23 (f := .free "ValueError") rfl)) (by decide +kernel) rfl) (pa_nil)))) (by intro _; rfl)) (pw_and1 (pt_tr (pe_callB (call_isED hz hf) (by rfl) (He.free_ok Z.X Z.G (Z.k.fact 17 (f := .free "isinstance") rfl)) (by decide +kernel) (pa_cons (pv 4) (pa_cons (pe_glob (by rfl) (He.glo_ok Z.X Z.G (Z.k.fact 26 (f := .glo "ControlError") rfl)) rfl) (pa_nil)))) (by intro _; rfl)))))) (pss_one (ps_set (i := 3) sc_law_asked.nd rfl (by first | exact Or.inl rfl | exact Or.inr rfl) (pe_tup (pa_cons (pe_str) (pa_cons (pe_nev) (pa_nil)))))) (pss_nil)) (C8.pss_cut (ps_if (PW.pt (pw_and (pt_cmpR (op_eq1 (by have q := hu64 hr; exact q)) (pv 5) (pe_int) (nomark _)) (pw_and (pt_tr (pe_callB (call_isED hz hf) (by rfl) (He.free_ok Z.X Z.G (Z.k.fact 17 (f := .free "isinstance") rfl)) (by decide +kernel) (pa_cons (pv 4) (pa_cons (pe_bltn (v := .ty "ValueError") (by rfl) (He.free_ok Z.X Z.G (Z.k.fact 23 (f := .free "ValueError") rfl)) (by decide +kernel) rfl) (pa_nil)))) (by intro _; rfl)) (pw_and1 (pt_tr (pe_callB (call_isED hz hf) (by rfl) (He.free_ok Z.X Z.G (Z.k.fact 17 (f := .free "isinstance") rfl)) (by decide +kernel) (pa_cons (pv 4) (pa_cons (pe_glob (by rfl) (He.glo_ok Z.X Z.G (Z.k.fact 25 (f := .glo "FeedError") rfl)) rfl) (pa_nil)))) (by intro _; rfl)))))) (pss_one (ps_set (i := 3) sc_law_asked.nd rfl (by first | exact Or.inl rfl | exact Or.inr rfl) (pe_tup (pa_cons (pe_str) (pa_cons (pe_xf (e_FeedError Z).2 (Z.err 0 (d := ed_FeedError) rfl).noat hz hf (pv 4)) (pa_nil)))))) (pss_nil)) (pss_one (ps_if (PW.pt (pw_and (pt_cmpR (op_eq1 (by have q := hu64 hr; exact q)) (pv 5) (pe_int) (nomark _)) (pw_and (pt_tr (pe_callB (call_isED hz hf) (by rfl) (He.free_ok Z.X Z.G (Z.k.fact 17 (f := .free "isinstance") rfl)) (by decide +kernel) (pa_cons (pv 4) (pa_cons (pe_bltn (v := .ty "ValueError") (by rfl) (He.free_ok Z.X Z.G (Z.k.fact 23 (f := .free "ValueError") rfl)) (by decide +kernel) rfl) (pa_nil)))) (by intro _; rfl)) (pw_and1 (pt_tr (pe_callB (call_isED hz hf) (by rfl) (He.free_ok Z.X Z.G (Z.k.fact 17 (f := .free "isinstance") rfl)) (by decide +kernel) (pa_cons (pv 4) (pa_cons (pe_glob (by rfl) (He.glo_ok Z.X Z.G (Z.k.fact 24 (f := .glo "ExchangeError") rfl)) rfl) (pa_nil)))) (by intro _; rfl)))))) (pss_one (ps_set (i := 3) sc_law_asked.nd rfl (by first | exact Or.inl rfl | exact Or.inr rfl) (pe_tup (pa_cons (pe_str) (pa_cons (pe_nev) (pa_nil)))))) (pss_nil)))))))))))) (pss_one (ps_ret (pv 3))))
theorem d_law_asked {P : Program} {w : World} {K : PySem.W.Frag} {mg : Str → Option Value} {base : Heap} (Z : Zz P w K mg base) : DefOk P w K mg base "_law_asked" 6 [("way" : Str), "control", "feed"] [] (sp_law_asked K) := by
  obtain ⟨fd, F⟩ := Z.c.def_ 13 (d := dd_law_asked) rfl
  have b := F.bindsN (ps := [("way" : Str), "control", "feed"]) fun _ _ _ _ _ _ us hl => match us, hl with | [_, _, _], _ => rfl
  exact ⟨_, fd, [], o_law_asked Z F, (He.glo_ok Z.X Z.G (Z.k.fact 53 (f := .glo "_law_asked") rfl)), F.kp, b, .nil⟩
theorem sc_law_led : FnScope [("rows" : Str), "origin", "feed", "told", "stood", "c", "entry"] [("rows" : Str), "origin", "feed"] (defScope s_law_led) := ⟨rfl, rfl, rfl, by decide +kernel, rfl, by decide +kernel, by decide +kernel⟩
theorem o_law_led {P : Program} {w : World} {K : PySem.W.Frag} {mg : Str → Option Value} {base : Heap} (Z : Zz P w K mg base) {fd : FuncData} (F : FunD K dd_law_led.name dd_law_led.qual dd_law_led.params dd_law_led.body dd_law_led.scope (dd_law_led.dvs K) (dd_law_led.kws K) (He.fAd K dd_law_led.at_) fd) : FnOk P w K mg base (L2.CX P w) 1 (He.fAd K dd_law_led.at_) fd [("rows" : Str), "origin", "feed"] (sp_law_led K) := by
  refine F.ok sc_law_led (fun vs H Q E h => ?_) (fun cdv A outer s H vs Q E hr h => ⟨t_law_led K E, PSs.nox ?_, pure_law_led Z.k vs H Q E h⟩)
  · obtain ⟨_, _, _, _, _, _, _, _, e, _⟩ := h; rw [e]; rfl
  · exact pss_cons (ps_set (i := 3) sc_law_led.nd rfl (by first | exact Or.inl rfl | exact Or.inr rfl) (pe_lst (pa_nil))) (pss_cons (ps_set (i := 4) sc_law_led.nd rfl (by first | exact Or.inl rfl | exact Or.inr rfl) (pe_lst (pa_cons (pv 1) (pa_nil)))) (pss_cons (ps_for PassesOwn.never rfl (pi_sq1 (pv 2)) (pg_name (i := 5) sc_law_led.nd rfl (by first | exact Or.inl rfl | exact Or.inr rfl)) (pss_cons (ps_set (i := 6) sc_law_led.nd rfl (by first | exact Or.inl rfl | exact Or.inr rfl) (pe_ix ix_1 (pe_ix ix_1 (pv 0) (pe_ix ix_1 (pv 4) (pe_op op_sub (pe_callB call_len1 (by rfl) (He.free_ok Z.X Z.G (Z.k.fact 7 (f := .free "len") rfl)) (by decide +kernel) (pa_cons (pv 4) (pa_nil))) (pe_int)) (fun _ _ => rfl)) (fun _ _ => rfl)) (pv 5) (fun _ _ => rfl))) (pss_cons (ps_expr (pe_bm PySem.F.plainAttrs_list PySem.F.slot_list_append PySem.F.type_list_append mt_append (pv 3) (pa_cons (pe_ix ix_1 (pv 6) (pe_int) (fun _ _ => rfl)) (pa_nil)))) (pss_one (ps_expr (pe_bm PySem.F.plainAttrs_list PySem.F.slot_list_append PySem.F.type_list_append mt_append (pv 4) (pa_cons (pe_ix ix_1 (pv 6) (pe_int) (fun _ _ => rfl)) (pa_nil)))))))) (pss_one (ps_ret (pe_lst (pa_cons (pv 3) (pa_cons (pv 4) (pa_cons (pe_ix ix_1 (pv 4) (pe_op op_sub (pe_callB call_len1 (by rfl) (He.free_ok Z.X Z.G (Z.k.fact 7 (f := .free "len") rfl)) (by decide +kernel) (pa_cons (pv 4) (pa_nil))) (pe_int)) (fun _ _ => rfl)) (pa_nil)))))))))
theorem d_law_led {P : Program} {w : World} {K : PySem.W.Frag} {mg : Str → Option Value} {base : Heap} (Z : Zz P w K mg base) : DefOk P w K mg base "_law_led" 1 [("rows" : Str), "origin", "feed"] [] (sp_law_led K) := by
  obtain ⟨fd, F⟩ := Z.c.def_ 14 (d := dd_law_led) rfl
  have b := F.bindsN (ps := [("rows" : Str), "origin", "feed"]) fun _ _ _ _ _ _ us hl => match us, hl with | [_, _, _], _ => rfl
  exact ⟨_, fd, [], o_law_led Z F, (He.glo_ok Z.X Z.G (Z.k.fact 54 (f := .glo "_law_led") rfl)), F.kp, b, .nil⟩
theorem sc_law_feed : FnScope [("pool" : Str), "cues", "many", "block", "k"] [("pool" : Str), "cues", "many"] (defScope s_law_feed) := ⟨rfl, rfl, rfl, by decide +kernel, rfl, by decide +kernel, by decide +kernel⟩
theorem o_law_feed {P : Program} {w : World} {K : PySem.W.Frag} {mg : Str → Option Value} {base : Heap} (Z : Zz P w K mg base) {fd : FuncData} (F : FunD K dd_law_feed.name dd_law_feed.qual dd_law_feed.params dd_law_feed.body dd_law_feed.scope (dd_law_feed.dvs K) (dd_law_feed.kws K) (He.fAd K dd_law_feed.at_) fd) : FnOk P w K mg base (L2.CX P w) 2 (He.fAd K dd_law_feed.at_) fd [("pool" : Str), "cues", "many"] (sp_law_feed K) := by
  refine F.ok sc_law_feed (fun vs H Q E h => ?_) (fun cdv A outer s H vs Q E hr h => ⟨t_law_feed K E, PSs.nox ?_, pure_law_feed Z.k vs H Q E h⟩)
  · obtain ⟨_, _, _, _, _, _, _, _, _, _, e, _⟩ := h; rw [e]; rfl
  · exact pss_cons (ps_set (i := 3) sc_law_feed.nd rfl (by first | exact Or.inl rfl | exact Or.inr rfl) (pe_lc (own := [("k", 4)]) rfl sc_law_feed.nd (pi_range1 (by rfl) (He.free_ok Z.X Z.G (Z.k.fact 16 (f := .free "range") rfl)) (pa_cons (pe_op op_add1 (pe_int) (pe_def (d_law_draw Z) (hr.mono (by first | decide | exact Nat.le_refl _)) (by rfl) passL (pa_cons (pv 0) (pa_cons (pe_int) (pa_nil))))) (pa_nil))) (blkOk_by (N := [("pool" : Str), "cues", "many", "block", "k"]) (sc := defScope s_law_feed) (by decide +kernel)) (fun _ _ _ _ _ => pg_name (i := 4) sc_law_feed.nd rfl (by first | exact Or.inl rfl | exact Or.inr rfl)) (fun _ _ _ _ _ => pts_nil) (fun _ _ _ _ _ => pe_def (d_law_draw Z) (hr.mono (by first | decide | exact Nat.le_refl _)) (by rfl) passL (pa_cons (pv 0) (pa_cons (pv 1) (pa_nil)))))) (pss_cons (ps_if (pt_cmpR op_lt (pv 2) (pe_int) (nomark _)) (pss_one (ps_ret (pe_lc (own := [("k", 4)]) rfl sc_law_feed.nd (pi_range1 (by rfl) (He.free_ok Z.X Z.G (Z.k.fact 16 (f := .free "range") rfl)) (pa_cons (pv 2) (pa_nil))) (blkOk_by (N := [("pool" : Str), "cues", "many", "block", "k"]) (sc := defScope s_law_feed) (by decide +kernel)) (fun _ _ _ _ _ => pg_name (i := 4) sc_law_feed.nd rfl (by first | exact Or.inl rfl | exact Or.inr rfl)) (fun _ _ _ _ _ => pts_nil) (fun _ _ _ _ _ => pe_def (d_law_draw Z) (hr.mono (by first | decide | exact Nat.le_refl _)) (by rfl) passL (pa_cons (pv 0) (pa_cons (pv 1) (pa_nil))))))) (pss_nil)) (pss_one (ps_ret (pe_lc (own := [("k", 4)]) rfl sc_law_feed.nd (pi_range1 (by rfl) (He.free_ok Z.X Z.G (Z.k.fact 16 (f := .free "range") rfl)) (pa_cons (pv 2) (pa_nil))) (blkOk_by (N := [("pool" : Str), "cues", "many", "block", "k"]) (sc := defScope s_law_feed) (by decide +kernel)) (fun _ _ _ _ _ => pg_name (i := 4) sc_law_feed.nd rfl (by first | exact Or.inl rfl | exact Or.inr rfl)) (fun _ _ _ _ _ => pts_nil) (fun _ _ _ _ _ => pe_ix ix_1 (pv 3) (pe_op op_mod1 (pe_callTy call_int_1 (by rfl) (He.free_ok Z.X Z.G (Z.k.fact 14 (f := .free "int") rfl)) (by decide +kernel) (pa_cons (pv 4) (pa_nil))) (pe_callB call_len1 (by rfl) (He.free_ok Z.X Z.G (Z.k.fact 7 (f := .free "len") rfl)) (by decide +kernel) (pa_cons (pv 3) (pa_nil)))) (fun _ _ => rfl))))))
theorem d_law_feed {P : Program} {w : World} {K : PySem.W.Frag} {mg : Str → Option Value} {base : Heap} (Z : Zz P w K mg base) : DefOk P w K mg base "_law_feed" 2 [("pool" : Str), "cues", "many"] [] (sp_law_feed K) := by
  obtain ⟨fd, F⟩ := Z.c.def_ 15 (d := dd_law_feed) rfl
  have b := F.bindsN (ps := [("pool" : Str), "cues", "many"]) fun _ _ _ _ _ _ us hl => match us, hl with | [_, _, _], _ => rfl
  exact ⟨_, fd, [], o_law_feed Z F, (He.glo_ok Z.X Z.G (Z.k.fact 55 (f := .glo "_law_feed") rfl)), F.kp, b, .nil⟩
theorem sc_law_faulty : FnScope [("pool" : Str), "feed", "cues", "made", "k", "number"] [("pool" : Str), "feed", "cues"] (defScope s_law_faulty) := ⟨rfl, rfl, rfl, by decide +kernel, rfl, by decide +kernel, by decide +kernel⟩
theorem o_law_faulty {P : Program} {w : World} {K : PySem.W.Frag} {mg : Str → Option Value} {base : Heap} (Z : Zz P w K mg base) {fd : FuncData} (F : FunD K dd_law_faulty.name dd_law_faulty.qual dd_law_faulty.params dd_law_faulty.body dd_law_faulty.scope (dd_law_faulty.dvs K) (dd_law_faulty.kws K) (He.fAd K dd_law_faulty.at_) fd) : FnOk P w K mg base (L2.CX P w) 2 (He.fAd K dd_law_faulty.at_) fd [("pool" : Str), "feed", "cues"] (sp_law_faulty K) := by
  refine F.ok sc_law_faulty (fun vs H Q E h => ?_) (fun cdv A outer s H vs Q E hr h => ⟨t_law_faulty K E, PSs.nox ?_, pure_law_faulty Z.k vs H Q E h⟩)
  · obtain ⟨_, _, _, _, _, _, _, _, _, _, _, e, _⟩ := h; rw [e]; rfl
  · exact pss_cons (ps_set (i := 3) sc_law_faulty.nd rfl (by first | exact Or.inl rfl | exact Or.inr rfl) (pe_callTy call_list1 (by rfl) (He.free_ok Z.X Z.G (Z.k.fact 18 (f := .free "list") rfl)) (by decide +kernel) (pa_cons (pv 1) (pa_nil)))) (pss_cons (ps_if (pt_cmpR (op_eq1 (hu64 hr)) (pe_callB call_len1 (by rfl) (He.free_ok Z.X Z.G (Z.k.fact 7 (f := .free "len") rfl)) (by decide +kernel) (pa_cons (pv 3) (pa_nil))) (pe_int) (nomark _)) (pss_one (ps_ret (pv 3))) (pss_nil)) (pss_cons (ps_for PassesOwn.never rfl (pi_range1 (by rfl) (He.free_ok Z.X Z.G (Z.k.fact 16 (f := .free "range") rfl)) (pa_cons (pe_op op_add1 (pe_int) (pe_def (d_law_draw Z) (hr.mono (by first | decide | exact Nat.le_refl _)) (by rfl) passL (pa_cons (pv 0) (pa_cons (pe_int) (pa_nil))))) (pa_nil))) (pg_name (i := 4) sc_law_faulty.nd rfl (by first | exact Or.inl rfl | exact Or.inr rfl)) (pss_cons (ps_set (i := 5) sc_law_faulty.nd rfl (by first | exact Or.inl rfl | exact Or.inr rfl) (pe_op op_add1 (pv 2) (pe_def (d_law_draw Z) (hr.mono (by first | decide | exact Nat.le_refl _)) (by rfl) passL (pa_cons (pv 0) (pa_cons (pe_int) (pa_nil)))))) (C8.pss_cut (ps_if (pt_cmpR (op_eq1 (hu64 hr)) (pe_def (d_law_draw Z) (hr.mono (by first | decide | exact Nat.le_refl _)) (by rfl) passL (pa_cons (pv 0) (pa_cons (pe_int) (pa_nil)))) (pe_int) (nomark _)) (pss_one (ps_set (i := 5) sc_law_faulty.nd rfl (by first | exact Or.inl rfl | exact Or.inr rfl) (pe_op op_sub (pe_un un_neg1 (pe_int)) (pe_def (d_law_draw Z) (hr.mono (by first | decide | exact Nat.le_refl _)) (by rfl) passL (pa_cons (pv 0) (pa_cons (pe_op op_pow1 (pe_int) (pe_int)) (pa_nil))))))) (pss_nil)) (pss_one (ps_asg (pv 5) (pg_sub (pv 3) (pe_def (d_law_draw Z) (hr.mono (by first | decide | exact Nat.le_refl _)) (by rfl) passL (pa_cons (pv 0) (pa_cons (pe_callB call_len1 (by rfl) (He.free_ok Z.X Z.G (Z.k.fact 7 (f := .free "len") rfl)) (by decide +kernel) (pa_cons (pv 3) (pa_nil))) (pa_nil)))) set_list)))))) (pss_one (ps_ret (pv 3)))))
theorem d_law_faulty {P : Program} {w : World} {K : PySem.W.Frag} {mg : Str → Option Value} {base : Heap} (Z : Zz P w K mg base) : DefOk P w K mg base "_law_faulty" 2 [("pool" : Str), "feed", "cues"] [] (sp_law_faulty K) := by
  obtain ⟨fd, F⟩ := Z.c.def_ 16 (d := dd_law_faulty) rfl
  have b := F.bindsN (ps := [("pool" : Str), "feed", "cues"]) fun _ _ _ _ _ _ us hl => match us, hl with | [_, _, _], _ => rfl
  exact ⟨_, fd, [], o_law_faulty Z F, (He.glo_ok Z.X Z.G (Z.k.fact 56 (f := .glo "_law_faulty") rfl)), F.kp, b, .nil⟩
theorem sc_law_first_fault : FnScope [("feed" : Str), "cues", "k"] [("feed" : Str), "cues"] (defScope s_law_first_fault) := ⟨rfl, rfl, rfl, by decide +kernel, rfl, by decide +kernel, by decide +kernel⟩
theorem o_law_first_fault {P : Program} {w : World} {K : PySem.W.Frag} {mg : Str → Option Value} {base : Heap} (Z : Zz P w K mg base) {fd : FuncData} (F : FunD K dd_law_first_fault.name dd_law_first_fault.qual dd_law_first_fault.params dd_law_first_fault.body dd_law_first_fault.scope (dd_law_first_fault.dvs K) (dd_law_first_fault.kws K) (He.fAd K dd_law_first_fault.at_) fd) : FnOk P w K mg base (L2.CX P w) 1 (He.fAd K dd_law_first_fault.at_) fd [("feed" : Str), "cues"] (sp_law_first_fault K) := by
  refine F.ok sc_law_first_fault (fun vs H Q E h => ?_) (fun cdv A outer s H vs Q E hr h => ⟨t_law_first_fault K E, PSs.nox ?_, pure_law_first_fault Z.k vs H Q E h⟩)
  · obtain ⟨_, _, _, e, _⟩ := h; rw [e]; rfl
  · exact pss_cons (ps_for PassesOwn.never rfl (pi_range1 (by rfl) (He.free_ok Z.X Z.G (Z.k.fact 16 (f := .free "range") rfl)) (pa_cons (pe_callB call_len1 (by rfl) (He.free_ok Z.X Z.G (Z.k.fact 7 (f := .free "len") rfl)) (by decide +kernel) (pa_cons (pv 0) (pa_nil))) (pa_nil))) (pg_name (i := 2) sc_law_first_fault.nd rfl (by first | exact Or.inl rfl | exact Or.inr rfl)) (pss_one (ps_if (PW.pt (pw_or (pt_cmpR op_lt (pe_ix ix_1 (pv 0) (pv 2) (fun _ _ => rfl)) (pe_int) (nomark _)) (pw_or1 (pt_cmpR op_ge (pe_ix ix_1 (pv 0) (pv 2) (fun _ _ => rfl)) (pv 1) (nomark _))))) (pss_one (ps_ret (pv 2))) (pss_nil)))) (pss_one (ps_ret (pe_non)))
theorem d_law_first_fault {P : Program} {w : World} {K : PySem.W.Frag} {mg : Str → Option Value} {base : Heap} (Z : Zz P w K mg base) : DefOk P w K mg base "_law_first_fault" 1 [("feed" : Str), "cues"] [] (sp_law_first_fault K) := by
  obtain ⟨fd, F⟩ := Z.c.def_ 17 (d := dd_law_first_fault) rfl
  have b := F.bindsN (ps := [("feed" : Str), "cues"]) fun _ _ _ _ _ _ us hl => match us, hl with | [_, _], _ => rfl
  exact ⟨_, fd, [], o_law_first_fault Z F, (He.glo_ok Z.X Z.G (Z.k.fact 57 (f := .glo "_law_first_fault") rfl)), F.kp, b, .nil⟩
theorem sc_law_all : FnScope [("control" : Str), "rows", "origin", "feed", "tupled", "due", "way", "given", "got", "told"] [("control" : Str), "rows", "origin", "feed", "tupled"] (defScope s_law_all) := ⟨rfl, rfl, rfl, by decide +kernel, rfl, by decide +kernel, by decide +kernel⟩
theorem o_law_all {P : Program} {w : World} {K : PySem.W.Frag} {mg : Str → Option Value} {base : Heap} (Z : Zz P w K mg base) {fd : FuncData} (F : FunD K dd_law_all.name dd_law_all.qual dd_law_all.params dd_law_all.body dd_law_all.scope (dd_law_all.dvs K) (dd_law_all.kws K) (He.fAd K dd_law_all.at_) fd) : FnOk P w K mg base (L2.CX P w) 7 (He.fAd K dd_law_all.at_) fd [("control" : Str), "rows", "origin", "feed", "tupled"] (sp_law_all K) := by
  refine F.ok sc_law_all (fun vs H Q E h => ?_) (fun cdv A outer s H vs Q E hr h => ⟨t_law_all K E, PSs.nox ?_, pure_law_all Z.k vs H Q E h⟩)
  · obtain ⟨_, _, _, _, _, _, _, _, _, e, _⟩ := h; rw [e]; rfl
  · exact pss_cons (ps_set (i := 5) sc_law_all.nd rfl (by first | exact Or.inl rfl | exact Or.inr rfl) (pe_def (d_law_led Z) (hr.mono (by first | decide | exact Nat.le_refl _)) (by rfl) passL (pa_cons (pv 1) (pa_cons (pv 2) (pa_cons (pv 3) (pa_nil)))))) (pss_cons (ps_for PassesOwn.never rfl (pi_range1 (by rfl) (He.free_ok Z.X Z.G (Z.k.fact 16 (f := .free "range") rfl)) (pa_cons (pe_int) (pa_nil))) (pg_name (i := 6) sc_law_all.nd rfl (by first | exact Or.inl rfl | exact Or.inr rfl)) (pss_cons (ps_set (i := 7) sc_law_all.nd rfl (by first | exact Or.inl rfl | exact Or.inr rfl) (pe_callTy call_list1 (by rfl) (He.free_ok Z.X Z.G (Z.k.fact 18 (f := .free "list") rfl)) (by decide +kernel) (pa_cons (pv 3) (pa_nil)))) (C8.pss_cut (ps_if (pt_tr (pv 4) (by intro _; rfl)) (pss_one (ps_set (i := 8) sc_law_all.nd rfl (by first | exact Or.inl rfl | exact Or.inr rfl) (pe_def (d_law_asked Z) (hr.mono (by first | decide | exact Nat.le_refl _)) (by rfl) passL (pa_cons (pv 6) (pa_cons (pv 0) (pa_cons (pe_callTy call_tuple1 (by rfl) (He.free_ok Z.X Z.G (Z.k.fact 9 (f := .free "tuple") rfl)) (by decide +kernel) (pa_cons (pv 7) (pa_nil))) (pa_nil))))))) (pss_one (ps_set (i := 8) sc_law_all.nd rfl (by first | exact Or.inl rfl | exact Or.inr rfl) (pe_def (d_law_asked Z) (hr.mono (by first | decide | exact Nat.le_refl _)) (by rfl) passL (pa_cons (pv 6) (pa_cons (pv 0) (pa_cons (pv 7) (pa_nil)))))))) (pss_cons (ps_if (PW.pt (pw_or (pt_not (pt_tr (pe_def (d_law_same Z 4) (hr.mono (by first | decide | exact Nat.le_refl _)) (by rfl) passL (pa_cons (pv 8) (pa_cons (pe_tup (pa_cons (pe_str) (pa_cons (pe_ix ix_1 (pv 5) (pv 6) (fun _ _ => rfl)) (pa_nil)))) (pa_nil)))) (by intro _; rfl))) (pw_or1 (pt_cmpR (op_ne1 (hu64 hr)) (pv 7) (pv 3) (nomark _))))) (pss_one (ps_ret (pe_bl))) (pss_nil)) (pss_one (ps_if (pt_cmpR op_lt (pv 6) (pe_int) (nomark _)) (pss_cons (ps_set (i := 9) sc_law_all.nd rfl (by first | exact Or.inl rfl | exact Or.inr rfl) (pe_ix ix_1 (pv 8) (pe_int) (fun _ _ => rfl))) (pss_cons (ps_expr (pe_bm PySem.F.plainAttrs_list PySem.F.slot_list_append PySem.F.type_list_append mt_append (pv 9) (pa_cons (pe_int) (pa_nil)))) (pss_cons (ps_asg (pe_int) (pg_sub (pv 9) (pe_int) set_list)) (pss_one (ps_if (pt_not (pt_tr (pe_def (d_law_same Z 4) (hr.mono (by first | decide | exact Nat.le_refl _)) (by rfl) passL (pa_cons (pe_def (d_law_asked Z) (hr.mono (by first | decide | exact Nat.le_refl _)) (by rfl) passL (pa_cons (pv 6) (pa_cons (pv 0) (pa_cons (pe_callTy call_list1 (by rfl) (He.free_ok Z.X Z.G (Z.k.fact 18 (f := .free "list") rfl)) (by decide +kernel) (pa_cons (pv 3) (pa_nil))) (pa_nil))))) (pa_cons (pe_tup (pa_cons (pe_str) (pa_cons (pe_ix ix_1 (pv 5) (pv 6) (fun _ _ => rfl)) (pa_nil)))) (pa_nil)))) (by intro _; rfl))) (pss_one (ps_ret (pe_bl))) (pss_nil)))))) (pss_nil))))))) (pss_one (ps_ret (pe_bl))))
theorem d_law_all {P : Program} {w : World} {K : PySem.W.Frag} {mg : Str → Option Value} {base : Heap} (Z : Zz P w K mg base) : DefOk P w K mg base "_law_all" 7 [("control" : Str), "rows", "origin", "feed", "tupled"] [] (sp_law_all K) := by
  obtain ⟨fd, F⟩ := Z.c.def_ 18 (d := dd_law_all) rfl
  have b := F.bindsN (ps := [("control" : Str), "rows", "origin", "feed", "tupled"]) fun _ _ _ _ _ _ us hl => match us, hl with | [_, _, _, _, _], _ => rfl
  exact ⟨_, fd, [], o_law_all Z F, (He.glo_ok Z.X Z.G (Z.k.fact 58 (f := .glo "_law_all") rfl)), F.kp, b, .nil⟩
theorem sc_law : FnScope [("script" : Str), "pool", "cues", "replies", "states", "origin", "many", "tupled", "rows", "other", "one", "two", "feed", "k", "s", "faulty", "at", "way", "given", "got"] [("script" : Str)] (defScope s_law) := ⟨rfl, rfl, rfl, by decide +kernel, rfl, by decide +kernel, by decide +kernel⟩
theorem o_law {P : Program} {w : World} {K : PySem.W.Frag} {mg : Str → Option Value} {base : Heap} (Z : Zz P w K mg base) {fd : FuncData} (F : FunD K dd_law.name dd_law.qual dd_law.params dd_law.body dd_law.scope (dd_law.dvs K) (dd_law.kws K) (He.fAd K dd_law.at_) fd) : FnOk P w K mg base (L2.CX P w) 8 (He.fAd K dd_law.at_) fd [("script" : Str)] (sp_law K) := by
  refine F.ok sc_law (fun vs H Q E h => ?_) (fun cdv A outer s H vs Q E hr h => ⟨t_law K E, PSs.nox ?_, pure_law Z.k vs H Q E h⟩)
  · obtain ⟨_, _, e, _⟩ := h; rw [e]; rfl
  · exact pss_cons (ps_set (i := 1) sc_law.nd rfl (by first | exact Or.inl rfl | exact Or.inr rfl) (pe_def (d_law_pool Z) (hr.mono (by first | decide | exact Nat.le_refl _)) (by rfl) passL (pa_cons (pv 0) (pa_cons (pe_int) (pa_nil))))) (pss_cons (ps_set (i := 2) sc_law.nd rfl (by first | exact Or.inl rfl | exact Or.inr rfl) (pe_op op_add1 (pe_int) (pe_def (d_law_draw Z) (hr.mono (by first | decide | exact Nat.le_refl _)) (by rfl) passL (pa_cons (pv 1) (pa_cons (pe_int) (pa_nil)))))) (pss_cons (ps_set (i := 3) sc_law.nd rfl (by first | exact Or.inl rfl | exact Or.inr rfl) (pe_op op_add1 (pe_int) (pe_def (d_law_draw Z) (hr.mono (by first | decide | exact Nat.le_refl _)) (by rfl) passL (pa_cons (pv 1) (pa_cons (pe_int) (pa_nil)))))) (pss_cons (ps_set (i := 4) sc_law.nd rfl (by first | exact Or.inl rfl | exact Or.inr rfl) (pe_op op_add1 (pe_int) (pe_def (d_law_draw Z) (hr.mono (by first | decide | exact Nat.le_refl _)) (by rfl) passL (pa_cons (pv 1) (pa_cons (pe_int) (pa_nil)))))) (C8.pss_cut (ps_if (pt_cmpR (op_eq1 (hu64 hr)) (pe_def (d_law_draw Z) (hr.mono (by first | decide | exact Nat.le_refl _)) (by rfl) passL (pa_cons (pv 1) (pa_cons (pe_int) (pa_nil)))) (pe_int) (nomark _)) (pss_cons (ps_set (i := 2) sc_law.nd rfl (by first | exact Or.inl rfl | exact Or.inr rfl) (pe_int)) (pss_cons (ps_set (i := 3) sc_law.nd rfl (by first | exact Or.inl rfl | exact Or.inr rfl) (pe_int)) (pss_one (ps_set (i := 4) sc_law.nd rfl (by first | exact Or.inl rfl | exact Or.inr rfl) (pe_int))))) (pss_nil)) (pss_cons (ps_set (i := 5) sc_law.nd rfl (by first | exact Or.inl rfl | exact Or.inr rfl) (pe_def (d_law_draw Z) (hr.mono (by first | decide | exact Nat.le_refl _)) (by rfl) passL (pa_cons (pv 1) (pa_cons (pv 4) (pa_nil))))) (pss_cons (ps_set (i := 6) sc_law.nd rfl (by first | exact Or.inl rfl | exact Or.inr rfl) (pe_def (d_law_draw Z) (hr.mono (by first | decide | exact Nat.le_refl _)) (by rfl) passL (pa_cons (pv 1) (pa_cons (pe_int) (pa_nil))))) (C8.pss_cut (ps_if (pt_cmpR (op_eq1 (hu64 hr)) (pe_def (d_law_draw Z) (hr.mono (by first | decide | exact Nat.le_refl _)) (by rfl) passL (pa_cons (pv 1) (pa_cons (pe_int) (pa_nil)))) (pe_int) (nomark _)) (pss_one (ps_set (i := 6) sc_law.nd rfl (by first | exact Or.inl rfl | exact Or.inr rfl) (pe_op op_add1 (pe_int) (pe_def (d_law_draw Z) (hr.mono (by first | decide | exact Nat.le_refl _)) (by rfl) passL (pa_cons (pv 1) (pa_cons (pe_int) (pa_nil))))))) (pss_nil)) (pss_cons (ps_set (i := 7) sc_law.nd rfl (by first | exact Or.inl rfl | exact Or.inr rfl) (pe_cmpR (op_eq1 (hu64 hr)) (pe_def (d_law_draw Z) (hr.mono (by first | decide | exact Nat.le_refl _)) (by rfl) passL (pa_cons (pv 1) (pa_cons (pe_int) (pa_nil)))) (pe_int) (nomark _))) (pss_cons (ps_set (i := 8) sc_law.nd rfl (by first | exact Or.inl rfl | exact Or.inr rfl) (pe_def (d_law_rows Z) (hr.mono (by first | decide | exact Nat.le_refl _)) (by rfl) passL (pa_cons (pv 0) (pa_cons (pe_int) (pa_cons (pv 2) (pa_cons (pv 3) (pa_cons (pv 4) (pa_nil)))))))) (pss_cons (ps_set (i := 9) sc_law.nd rfl (by first | exact Or.inl rfl | exact Or.inr rfl) (pe_def (d_law_rows Z) (hr.mono (by first | decide | exact Nat.le_refl _)) (by rfl) passL (pa_cons (pv 0) (pa_cons (pe_int) (pa_cons (pv 2) (pa_cons (pv 3) (pa_cons (pv 4) (pa_nil)))))))) (pss_cons (ps_set (i := 10) sc_law.nd rfl (by first | exact Or.inl rfl | exact Or.inr rfl) (pe_makeMK (k_kb_Control__init_3_start Z) (hr.mono (by first | decide | exact Nat.le_refl _)) (by rfl) passL (pa_cons (pv 2) (pa_cons (pv 3) (pa_cons (pe_callTy call_list1 (by rfl) (He.free_ok Z.X Z.G (Z.k.fact 18 (f := .free "list") rfl)) (by decide +kernel) (pa_cons (pv 8) (pa_nil))) (pa_nil)))) (pk_cons (pv 5) (pk_nil)))) (pss_cons (ps_set (i := 11) sc_law.nd rfl (by first | exact Or.inl rfl | exact Or.inr rfl) (pe_makeMK (k_kb_Control__init_3_start Z) (hr.mono (by first | decide | exact Nat.le_refl _)) (by rfl) passL (pa_cons (pv 2) (pa_cons (pv 3) (pa_cons (pe_callTy call_tuple1 (by rfl) (He.free_ok Z.X Z.G (Z.k.fact 9 (f := .free "tuple") rfl)) (by decide +kernel) (pa_cons (pv 9) (pa_nil))) (pa_nil)))) (pk_cons (pe_op op_sub (pe_op op_sub (pv 4) (pe_int)) (pv 5)) (pk_nil)))) (pss_cons (ps_set (i := 12) sc_law.nd rfl (by first | exact Or.inl rfl | exact Or.inr rfl) (pe_def (d_law_feed Z) (hr.mono (by first | decide | exact Nat.le_refl _)) (by rfl) passL (pa_cons (pe_def (d_law_pool Z) (hr.mono (by first | decide | exact Nat.le_refl _)) (by rfl) passL (pa_cons (pv 0) (pa_cons (pe_int) (pa_nil)))) (pa_cons (pv 2) (pa_cons (pv 6) (pa_nil)))))) (pss_cons (ps_set (i := 1) sc_law.nd rfl (by first | exact Or.inl rfl | exact Or.inr rfl) (pe_def (d_law_pool Z) (hr.mono (by first | decide | exact Nat.le_refl _)) (by rfl) passL (pa_cons (pv 0) (pa_cons (pe_int) (pa_nil))))) (pss_cons (ps_for PassesOwn.never rfl (pi_range1 (by rfl) (He.free_ok Z.X Z.G (Z.k.fact 16 (f := .free "range") rfl)) (pa_cons (pe_int) (pa_nil))) (pg_name (i := 13) sc_law.nd rfl (by first | exact Or.inl rfl | exact Or.inr rfl)) (pss_cons (ps_if (pt_not (pt_tr (pe_def (d_law_all Z) (hr.mono (by first | decide | exact Nat.le_refl _)) (by rfl) passL (pa_cons (pv 10) (pa_cons (pv 8) (pa_cons (pv 5) (pa_cons (pv 12) (pa_cons (pv 7) (pa_nil))))))) (by intro _; rfl))) (pss_one (ps_ret (pe_bl))) (pss_nil)) (pss_one (ps_if (pt_not (pt_tr (pe_def (d_law_all Z) (hr.mono (by first | decide | exact Nat.le_refl _)) (by rfl) passL (pa_cons (pv 11) (pa_cons (pv 9) (pa_cons (pe_op op_sub (pe_op op_sub (pv 4) (pe_int)) (pv 5)) (pa_cons (pe_slice sl_list (pv 12) (po_some (pv 13)) (po_none)) (pa_cons (pe_not (pv 7)) (pa_nil))))))) (by intro _; rfl))) (pss_one (ps_ret (pe_bl))) (pss_nil))))) (pss_cons (ps_set (i := 14) sc_law.nd rfl (by first | exact Or.inl rfl | exact Or.inr rfl) (pe_def (d_law_draw Z) (hr.mono (by first | decide | exact Nat.le_refl _)) (by rfl) passL (pa_cons (pv 1) (pa_cons (pv 4) (pa_nil))))) (pss_cons (ps_if (PW.pt (pw_or (pt_not (pt_tr (pe_def (d_law_all Z) (hr.mono (by first | decide | exact Nat.le_refl _)) (by rfl) passL (pa_cons (pe_methM (d_Control_started Z) (hr.mono (by first | decide | exact Nat.le_refl _)) passL (pv 10) (pa_cons (pv 14) (pa_nil))) (pa_cons (pv 8) (pa_cons (pv 14) (pa_cons (pe_slice sl_list (pv 12) (po_none) (po_some (pe_int))) (pa_cons (pv 7) (pa_nil))))))) (by intro _; rfl))) (pw_or1 (pt_not (pt_tr (pe_def (d_law_all Z) (hr.mono (by first | decide | exact Nat.le_refl _)) (by rfl) passL (pa_cons (pv 10) (pa_cons (pv 8) (pa_cons (pv 5) (pa_cons (pe_lst (pa_nil)) (pa_cons (pv 7) (pa_nil))))))) (by intro _; rfl)))))) (pss_one (ps_ret (pe_bl))) (pss_nil)) (pss_cons (ps_if (pt_cmpR (op_eq1 (hu64 hr)) (pe_def (d_law_draw Z) (hr.mono (by first | decide | exact Nat.le_refl _)) (by rfl) passL (pa_cons (pv 1) (pa_cons (pe_int) (pa_nil)))) (pe_int) (nomark _)) (pss_one (ps_ret (pe_bl))) (pss_nil)) (pss_cons (ps_set (i := 15) sc_law.nd rfl (by first | exact Or.inl rfl | exact Or.inr rfl) (pe_def (d_law_faulty Z) (hr.mono (by first | decide | exact Nat.le_refl _)) (by rfl) passL (pa_cons (pv 1) (pa_cons (pv 12) (pa_cons (pv 2) (pa_nil)))))) (pss_cons (ps_set (i := 16) sc_law.nd rfl (by first | exact Or.inl rfl | exact Or.inr rfl) (pe_def (d_law_first_fault Z) (hr.mono (by first | decide | exact Nat.le_refl _)) (by rfl) passL (pa_cons (pv 15) (pa_cons (pv 2) (pa_nil))))) (pss_cons (ps_for PassesOwn.never rfl (pi_range1 (by rfl) (He.free_ok Z.X Z.G (Z.k.fact 16 (f := .free "range") rfl)) (pa_cons (pe_int) (pa_nil))) (pg_name (i := 17) sc_law.nd rfl (by first | exact Or.inl rfl | exact Or.inr rfl)) (pss_cons (ps_set (i := 18) sc_law.nd rfl (by first | exact Or.inl rfl | exact Or.inr rfl) (pe_callTy call_list1 (by rfl) (He.free_ok Z.X Z.G (Z.k.fact 18 (f := .free "list") rfl)) (by decide +kernel) (pa_cons (pv 15) (pa_nil)))) (pss_cons (ps_set (i := 19) sc_law.nd rfl (by first | exact Or.inl rfl | exact Or.inr rfl) (pe_def (d_law_asked Z) (hr.mono (by first | decide | exact Nat.le_refl _)) (by rfl) passL (pa_cons (pv 17) (pa_cons (pv 10) (pa_cons (pv 18) (pa_nil)))))) (pss_cons (ps_if (PW.pt (pw_and (pt_cmpR op_isNot1 (pv 16) (pe_non) (nomark _)) (pw_and1 (pt_not (pt_tr (pe_def (d_law_same Z 4) (hr.mono (by first | decide | exact Nat.le_refl _)) (by rfl) passL (pa_cons (pv 19) (pa_cons (pe_tup (pa_cons (pe_str) (pa_cons (pv 16) (pa_nil)))) (pa_nil)))) (by intro _; rfl)))))) (pss_one (ps_ret (pe_bl))) (pss_nil)) (pss_one (ps_if (pt_cmpR (op_ne1 (hu64 hr)) (pv 18) (pv 15) (nomark _)) (pss_one (ps_ret (pe_bl))) (pss_nil))))))) (pss_one (ps_ret (pe_def (d_law_all Z) (hr.mono (by first | decide | exact Nat.le_refl _)) (by rfl) passL (pa_cons (pv 10) (pa_cons (pv 8) (pa_cons (pv 5) (pa_cons (pe_slice sl_list (pv 12) (po_none) (po_some (pe_int))) (pa_cons (pv 7) (pa_nil))))))))))))))))))))))))))))))
theorem d_law {P : Program} {w : World} {K : PySem.W.Frag} {mg : Str → Option Value} {base : Heap} (Z : Zz P w K mg base) : DefOk P w K mg base "law" 8 [("script" : Str)] [] (sp_law K) := by
  obtain ⟨fd, F⟩ := Z.c.def_ 19 (d := dd_law) rfl
  have b := F.bindsN (ps := [("script" : Str)]) fun _ _ _ _ _ _ us hl => match us, hl with | [_], _ => rfl
  exact ⟨_, fd, [], o_law Z F, (He.glo_ok Z.X Z.G (Z.k.fact 0 (f := .glo "law") rfl)), F.kp, b, .nil⟩
/-! ## the head, and the law -/
abbrev R : PySem.W.OpenRow := PySem.W.OpenLaw.row PySem.Challenge.rw_gatesofcloth_k03_whole_feeds_tick_by_tic
def loose : List Str := ([("_wall" : Str), ("FabricError" : Str), ("SizeError" : Str), ("BitsError" : Str), ("MachineError" : Str), ("ProgramError" : Str), ("CircuitError" : Str), ("NetlistError" : Str)] : List Str) ++ ([("FanoutError" : Str), ("ColouringError" : Str), ("EdgeError" : Str), ("PathError" : Str), ("TapeError" : Str), ("StoreError" : Str), ("HistoryError" : Str), ("CommandError" : Str)] : List Str) ++ ([("ControlError" : Str), ("FeedError" : Str), ("ExchangeError" : Str), ("check_feed" : Str), ("replies_to" : Str), ("replies_from" : Str), ("visits" : Str), ("state_after" : Str)] : List Str) ++ ([("_is_entry" : Str), ("Control" : Str), ("_law_pool" : Str), ("_law_draw" : Str), ("_law_same" : Str), ("_law_rows" : Str), ("_law_asked" : Str), ("_law_led" : Str)] : List Str) ++ ([("_law_feed" : Str), ("_law_faulty" : Str), ("_law_first_fault" : Str), ("_law_all" : Str)] : List Str)
abbrev hk : PySem.W.Hook := hookM 5 fa fn es FILE ex
def ob (s : PySem.W.SharedT) : AlM := obsM 5 fa fn es FILE ex (HandSHeadRun.getT s)
theorem ob_eq (s : PySem.W.SharedT) : ob s = hk.obs s.abs := obsM_eq (HandSHeadRun.getT_eq s)
theorem run (w : World) : HandSHeadRun.RunEq R (PySem.W.view R.prog [40]) hk ob 8000 loose w := by
  intro os
  kernel_rfl
theorem facts {P : Program} {w : World} {K : PySem.W.Frag} {h : Heap} {mg : Str → Option Value} {f : Addr} (X : K.In h) (G : h.Ns mainGlobals mg) (hfa : mg ("law" : Str) = some (.ref f)) (c : SaysM fa fn es FILE ex K) (hpf : (P.main.file == FILE) = true) (hpt : (P.main.scope.names.lookup ("super" : Str)).isSome = false) :
    ∃ fd : FuncData, (∀ (s : Shared) (v : Value), BindsTo s fd ⟨[v], []⟩ [("script", v)]) ∧ ∀ base : Heap, K.In base → base.Ns mainGlobals mg → FnOk P w K mg base (L2.CX P w) 8 f fd ["script"] (sp_law K) := by
  have cd := c.d
  have κ : KF K := ⟨fun i f h => cd.fact i h, c.more⟩
  obtain ⟨fd, F⟩ := cd.def_ 19 (d := dd_law) rfl
  have e := hfa.symm.trans (He.glo_ok X G (κ.fact 0 (f := .glo "law") rfl))
  cases e
  have b := FunD.bindsA (ps := ["script"]) F fun _ _ _ _ _ _ us hl => match us, hl with | [_], _ => rfl
  exact ⟨fd, fun s v => b s [v] rfl, fun base hb hn => o_law ⟨hb, hn, cd, κ, c.op, hpf, hpt, fun i {d} h => c.err i h⟩ F⟩
end My
open PySem PySem.W PySem.Calls PyProof.Rows
theorem PySem.Challenge.cw_gatesofcloth_k03_whole_feeds_tick_by_tic_holds : PySem.Challenge.rw_gatesofcloth_k03_whole_feeds_tick_by_tic.Holds := by
  w_on; o_law
  refine HandSHeadRun.head_any (r := My.R) (q := view My.R.prog [40]) (H := My.hk) (ob := My.ob) (M := 8000) (loose := My.loose) (d := HandSHeadRun.topDef My.R.prog 40) (kwd := []) My.ob_eq
    (by kernel_rfl) (fun s => by kernel_rfl) My.run (by kernel_rfl) (by kernel_rfl) (by kernel_rfl) (by rfl) (by first | assumption | decide +kernel) (by decide +kernel) ⟨rfl, rfl, rfl, rfl, rfl, by decide +kernel⟩ ?hw ?hc
  case hw => w_witness2
  case hc =>
    refine My.walk_mine (l := PySem.Challenge.rw_gatesofcloth_k03_whole_feeds_tick_by_tic) (n := 63) (k := 8) (x := "script") rfl (by decide) (by kernel_rfl) ⟨rfl, by decide, by decide⟩ ?_
    intro w mg fa h Y G hmg0
    obtain ⟨K, KX, c⟩ := Y
    have hmg : mg ("law" : PySem.Str) = some (.ref fa) := by
      have e : (HandSHeadRun.topDef My.R.prog 40).name = ("law" : PySem.Str) := by kernel_rfl
      rw [← e]
      exact hmg0
    obtain ⟨fd, hb, hF⟩ := My.facts (P := (PySem.Challenge.rw_gatesofcloth_k03_whole_feeds_tick_by_tic).prog) (w := w) KX G hmg c (by kernel_rfl) (by kernel_rfl)
    exact ⟨K, fd, My.sp_law K, KX, hb, fun H a ns hl hS => ⟨a, ns, rfl, hS, hl, fun _ => rfl⟩, hF⟩

