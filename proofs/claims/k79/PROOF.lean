import PyProof.Rows.All
import Wide.All
import OpenK.AllK
import Wide.FinOn
import KE.KStateDown
import HandS.ForMost
import HandS.Exc
import HandS.WordsExc
import HandS.Defaults
import HandS.Walk
import HandS.Head0
import HandS.Head1
import HandS.Head2
import HandS.HeadEnd
import HandS.HeadHook1
import HandS.HeadHook2
import HandS.HeadHook3
import HandS.HeadHook4
import HandS.EndBits
import HandS.Codes
import HandS.MakeKw
import HandS.MakeKwOnly
import HandS.Style
import HandS.IsInst
import HandS.Flow
import HandS.TupAny
import HandS.TupMul
import HandS.TupLe
import HandS.Wide
import HandS.WideBits
import HandS.Strs
import HandS.SetBool
import HandS.Zip
import KE.GoesMore
import KE.KEqSeq
import KE.KExcSuper
import HandS.ExcInit
import HandS.NestedK
import HandS.ExcSuper
import HandS.ExcIs
import HandS.TryOnly
import HandS.TryMany
import HandS.Property
import HandS.CallSlots
import HandS.ExcField
import HandS.WordsDict
import HandS.TupLen
import HandS.DictComp
import HandS.DictTup
import HandS.Conv
import KE.KDictDisplayH
import HandS.ClsMeth
import HandS.HeadNt
import KE.KeyNested
import PySem.Challenge.RW_gatesofcloth_k79_whole_resets_or_never

set_option Elab.async false
set_option linter.all false
set_option maxRecDepth 100000
set_option maxHeartbeats 4000000
/-! My own small layer over HandS: an abstract heap told by facts (F) and own cells (cs). -/
namespace My
open PySem PySem.Spec L2

/-! ### facts that stay -/
class Mono (F : Hp → Prop) : Prop where
  up : ∀ B B', Same B B' → F B → F B'
theorem Same.seqT {K : PySem.W.Frag} {H H' : Hp} {a : Addr} {xs : List V} (e : Same H H') (h : SqT K H a xs) : SqT K H' a xs := by
  rcases h with (h | ⟨o, h⟩) | h
  · exact .inl (.inl (e _ _ h))
  · exact .inl (.inr ⟨o, e _ _ h⟩)
  · exact .inr h
instance {K : PySem.W.Frag} {a : Addr} {xs : List V} : Mono (fun H => SqL K H a xs) := ⟨fun _ _ e h => e.seq h⟩
instance {K : PySem.W.Frag} {a : Addr} {xs : List V} : Mono (fun H => SqT K H a xs) := ⟨fun _ _ e h => Same.seqT e h⟩
instance {P : Prop} : Mono (fun _ => P) := ⟨fun _ _ _ h => h⟩
instance {A B : Hp → Prop} [Mono A] [Mono B] : Mono (fun H => A H ∧ B H) := ⟨fun _ _ e h => ⟨Mono.up _ _ e h.1, Mono.up _ _ e h.2⟩⟩
instance {A B : Hp → Prop} [Mono A] [Mono B] : Mono (fun H => A H ∨ B H) := ⟨fun _ _ e h => h.imp (Mono.up _ _ e) (Mono.up _ _ e)⟩
instance {α : Sort _} {A : α → Hp → Prop} [∀ x, Mono (A x)] : Mono (fun H => ∀ x, A x H) := ⟨fun _ _ e h x => Mono.up _ _ e (h x)⟩
instance {α : Sort _} {A : α → Hp → Prop} [∀ x, Mono (A x)] : Mono (fun H => ∃ x, A x H) := ⟨fun _ _ e ⟨x, h⟩ => ⟨x, Mono.up _ _ e h⟩⟩
instance {a : Addr} {o : HO} : Mono (fun H => H a = some o) := ⟨fun _ _ e h => e _ _ h⟩
mutual
theorem dp_up {K : PySem.W.Frag} {H H' : Hp} (e : Same H H') : ∀ {v : V} {d : PyData}, Dp K H v d → Dp K H' v d
  | _, _, .non => .non
  | _, _, .bl b => .bl b
  | _, _, .int i => .int i
  | _, _, .str x => .str x
  | _, _, .lst h k => .lst (e.seq h) (dpAll_up e k)
  | _, _, .tup h k => .tup (Same.seqT e h) (dpAll_up e k)
theorem dpAll_up {K : PySem.W.Frag} {H H' : Hp} (e : Same H H') : ∀ {vs : List V} {ds : List PyData}, DpAll K H vs ds → DpAll K H' vs ds
  | _, _, .nil => .nil
  | _, _, .cons h k => .cons (dp_up e h) (dpAll_up e k)
end
instance {K : PySem.W.Frag} {v : V} {d : PyData} : Mono (fun H => Dp K H v d) := ⟨fun _ _ e h => dp_up e h⟩
instance {K : PySem.W.Frag} {vs : List V} {ds : List PyData} : Mono (fun H => DpAll K H vs ds) := ⟨fun _ _ e h => dpAll_up e h⟩
/-- a sequence that is to be read: a list or a tuple -/
def Sq (K : PySem.W.Frag) (H : Hp) (a : Addr) (xs : List V) : Prop := SqL K H a xs ∨ SqT K H a xs
instance {K : PySem.W.Frag} {a : Addr} {xs : List V} : Mono (fun H => Sq K H a xs) := ⟨fun _ _ e h => h.imp (Same.seq e) (Same.seqT e)⟩

/-! ### the state -/
structure S (F : Hp → Prop) (cs : List (Addr × HO)) (H : Hp) : Prop where
  mono : Mono F
  ex : ∃ B, Same B H ∧ F B ∧ ∀ c ∈ cs, B c.1 = none
  cell : ∀ c ∈ cs, H c.1 = some c.2
  nd : (cs.map (·.1)).Nodup
section
variable {F G : Hp → Prop} {cs cs' : List (Addr × HO)} {H H' : Hp} {p : Addr} {o u : HO} {K : PySem.W.Frag}
theorem same_upd {H : Hp} {p : Addr} {o : HO} (h : H p = none) : Same H (upd H p o) := fun a u e => by rw [upd_ne (ne_of_none e h)]; exact e
theorem S.fact (s : S F cs H) : F H := by
  obtain ⟨B, e, f, _⟩ := s.ex
  exact s.mono.up B H e f
theorem S.of (h : F H) (m : Mono F := by infer_instance) : S F [] H := ⟨m, ⟨H, Same.refl H, h, fun _ z => nomatch z⟩, fun _ z => (nomatch z), List.nodup_nil⟩
theorem S.alloc (s : S F cs H) (h : H p = none) : S F ((p, o) :: cs) (upd H p o) := by
  obtain ⟨m, ⟨B, e, f, fr⟩, c, nd⟩ := s
  have hp : ∀ x ∈ cs, x.1 ≠ p := fun x hx => ne_of_none (c x hx) h
  refine ⟨m, ⟨B, e.trans (same_upd h), f, fun x hx => ?_⟩, fun x hx => ?_, ?_⟩
  · rcases List.mem_cons.mp hx with rfl | hx
    · exact e.free h
    · exact fr x hx
  · rcases List.mem_cons.mp hx with rfl | hx
    · exact upd_same
    · rw [upd_ne (hp x hx)]; exact c x hx
  · rw [List.map_cons, List.nodup_cons]
    refine ⟨fun z => ?_, nd⟩
    obtain ⟨x, hx, ex⟩ := List.mem_map.mp z
    exact hp x hx ex
theorem S.same (s : S F cs H) (e : Same H H') : S F cs H' := by
  obtain ⟨m, ⟨B, e0, f, fr⟩, c, nd⟩ := s
  exact ⟨m, ⟨B, e0.trans e, f, fr⟩, fun x hx => e _ _ (c x hx), nd⟩
theorem S.new (s : S F cs H) (h : H p = none) (e : Same H H') (ho : H' p = some o) : S F ((p, o) :: cs) H' := by
  refine (s.alloc (o := o) h).same fun a u q => ?_
  by_cases z : a = p
  · subst z
    rw [upd_same] at q; cases q; exact ho
  · rw [upd_ne z] at q; exact e _ _ q
theorem mem_of_get {α : Type} {l : List α} {i : Nat} {x : α} (h : l[i]? = some x) : x ∈ l := by
  obtain ⟨h1, h2⟩ := List.getElem?_eq_some_iff.mp h
  exact h2 ▸ List.getElem_mem h1
theorem S.at (s : S F cs H) (i : Nat) {c : Addr × HO} (h : cs[i]? = some c) : H c.1 = some c.2 := s.cell c (mem_of_get h)
theorem S.has (s : S F cs H) {c : Addr × HO} (h : c ∈ cs) : H c.1 = some c.2 := s.cell c h
theorem S.set (s : S F cs H) (i : Nat) (h : cs[i]? = some (p, o)) (u : HO) : S F (cs.set i (p, u)) (upd H p u) := by
  obtain ⟨m, ⟨B, e, f, fr⟩, c, nd⟩ := s
  obtain ⟨hi, hie⟩ := List.getElem?_eq_some_iff.mp h
  have hp : B p = none := fr (p, o) (mem_of_get h)
  have key : (cs.set i (p, u)).map (·.1) = cs.map (·.1) := by
    rw [List.map_set]
    apply List.ext_getElem
    · simp
    · intro j h1 h2
      rw [List.getElem_set]
      split
      · rename_i q; subst q; simp [hie]
      · rfl
  refine ⟨m, ⟨B, fun a w q => ?_, f, fun x hx => ?_⟩, fun x hx => ?_, by rw [key]; exact nd⟩
  · have : a ≠ p := by intro z; subst z; rw [hp] at q; cases q
    rw [upd_ne this]; exact e _ _ q
  · rcases List.mem_or_eq_of_mem_set hx with hx | hx
    · exact fr x hx
    · subst hx; exact hp
  · obtain ⟨j, hj⟩ := List.mem_iff_getElem?.mp hx
    rw [List.getElem?_set] at hj
    by_cases z : i = j
    · subst z
      rw [if_pos rfl, if_pos hi] at hj
      cases hj
      exact upd_same
    · rw [if_neg z] at hj
      have q : x.1 ≠ p := by
        intro w
        have a1 : (cs.map (·.1))[j]? = some p := by rw [List.getElem?_map, hj]; simp [w]
        have a2 : (cs.map (·.1))[i]? = some p := by rw [List.getElem?_map, h]; rfl
        exact z (nd_ix nd a2 a1)
      rw [upd_ne q]
      exact c x (mem_of_get hj)
theorem S.imp (s : S F cs H) (h : ∀ B, F B → G B) (m : Mono G := by infer_instance) : S G cs H := by
  obtain ⟨_, ⟨B, e, f, fr⟩, c, nd⟩ := s
  exact ⟨m, ⟨B, e, h B f, fr⟩, c, nd⟩
theorem S.sub (s : S F cs H) (h : cs'.Sublist cs) : S F cs' H := by
  obtain ⟨m, ⟨B, e, f, fr⟩, c, nd⟩ := s
  exact ⟨m, ⟨B, e, f, fun x hx => fr x (h.subset hx)⟩, fun x hx => c x (h.subset hx), nd.sublist (h.map _)⟩
theorem S.perm (s : S F cs H) (h : cs.Perm cs') : S F cs' H := by
  obtain ⟨m, ⟨B, e, f, fr⟩, c, nd⟩ := s
  exact ⟨m, ⟨B, e, f, fun x hx => fr x (h.mem_iff.mpr hx)⟩, fun x hx => c x (h.mem_iff.mpr hx), (h.map _).nodup_iff.mp nd⟩
/-- the first cell will not change any more: a fact -/
theorem S.freeze (s : S F ((p, o) :: cs) H) (h : ∀ B, F B → B p = some o → G B) (m : Mono G := by infer_instance) : S G cs H := by
  obtain ⟨mF, ⟨B, e, f, fr⟩, c, nd⟩ := s
  have hp : H p = some o := c (p, o) (List.mem_cons_self ..)
  have bp : B p = none := fr (p, o) (List.mem_cons_self ..)
  rw [List.map_cons, List.nodup_cons] at nd
  refine ⟨m, ⟨upd B p o, fun a u q => ?_, h _ (mF.up _ _ (same_upd bp) f) upd_same, fun x hx => ?_⟩, fun x hx => c x (List.mem_cons_of_mem _ hx), nd.2⟩
  · by_cases z : a = p
    · subst z; rw [upd_same] at q; cases q; exact hp
    · rw [upd_ne z] at q; exact e _ _ q
  · have q : x.1 ≠ p := fun z => nd.1 (List.mem_map.mpr ⟨x, hx, z⟩)
    rw [upd_ne q]; exact fr x (List.mem_cons_of_mem _ hx)
theorem S.drop1 (s : S F ((p, o) :: cs) H) : S F cs H := s.sub (List.sublist_cons_self _ _)
theorem S.free (s : S F cs H) (h : H p = none) : ∀ c ∈ cs, c.1 ≠ p := fun c hc => ne_of_none (s.cell c hc) h
end
theorem sq_l {K : PySem.W.Frag} {H : Hp} {a : Addr} {xs : List V} (h : H a = some (.lst xs)) : SqL K H a xs := Or.inl (Or.inl h)
theorem sq_t {K : PySem.W.Frag} {H : Hp} {a : Addr} {xs : List V} (h : H a = some (.tup xs)) : SqT K H a xs := Or.inl (Or.inl h)

/-! ### steps of a reading -/
section
variable {σ σ' : L2.St} {H : Hp} {Q : VK} {nx bk ct : L2.St → Hp → Prop} {rt : VK} {ta tb tc te : TE} {t u : TS} {tt tu : TT} {i j : Nat} {v x y : V} {r : R2} {K : PySem.W.Frag} {F : Hp → Prop} {cs : List (Addr × HO)}
theorem x_seq (h : t ⟨fun σ H => u ⟨nx, rt, bk, ct⟩ σ H, rt, bk, ct⟩ σ H) : tSeq t u ⟨nx, rt, bk, ct⟩ σ H := h
theorem x_next (h : nx σ H) : tNext ⟨nx, rt, bk, ct⟩ σ H := h
theorem x_ret (h : te σ H rt) : tRet te ⟨nx, rt, bk, ct⟩ σ H := h
theorem x_retN (h : rt .non H) : tRetN ⟨nx, rt, bk, ct⟩ σ H := h
theorem x_brk (h : bk σ H) : tBreak ⟨nx, rt, bk, ct⟩ σ H := h
theorem x_cont (h : ct σ H) : tCont ⟨nx, rt, bk, ct⟩ σ H := h
theorem x_drop (h : te σ H fun _ H1 => nx σ H1) : tDrop te ⟨nx, rt, bk, ct⟩ σ H := h
theorem x_asg {g : TG} (h : te σ H fun x H1 => g x σ H1 nx) : tAsg te g ⟨nx, rt, bk, ct⟩ σ H := h
theorem x_gname {R : L2.St → Hp → Prop} (h : R (σ.set i (some v)) H) : gName i v σ H R := h
theorem x_ifs (h : tt σ H fun b H1 => if b = true then t ⟨nx, rt, bk, ct⟩ σ H1 else u ⟨nx, rt, bk, ct⟩ σ H1) : tIfS tt t u ⟨nx, rt, bk, ct⟩ σ H := h
theorem x_for {wi : TI} {g : TG} {tb : TS} (h : wi σ H fun J H1 => ∃ W : Nat → Nat → L2.St → Hp → Prop, (∃ m, W 0 m σ H1) ∧ ∀ i m σ H, W i m σ H →
  (J.stop i H ∧ nx σ H) ∨ (J.go i H ∧ ∃ N : L2.St → Hp → Prop, (∀ σ' H', N σ' H' → ∃ m', m' < m ∧ W (i + 1) m' σ' H') ∧ ∀ x H', J.yld i H x H' → g x σ H' fun σ2 H2 => tb ⟨N, rt, nx, N⟩ σ2 H2)) : tFor wi g tb ⟨nx, rt, bk, ct⟩ σ H := h
theorem x_var (h : σ[i]? = some (some v)) (q : Q v H) : tVar i σ H Q := ⟨v, h, q⟩
theorem x_c (q : Q v H) : tC v σ H Q := q
theorem x_op (h : ta σ H fun x H1 => tb σ H1 fun y H2 => r x y H2 Q) : tOp r ta tb σ H Q := h
theorem x_un {r : V → Hp → VK → Prop} (h : ta σ H fun x H1 => r x H1 Q) : tUn r ta σ H Q := h
theorem x_I0 {g : Int → Int → V} {a b : Int} (q : Q (g a b) H) : rI0 g (.int a) (.int b) H Q := ⟨a, b, rfl, rfl, q⟩
theorem x_I {C : Int → Int → Prop} {g : Int → Int → V} {a b : Int} (c : C a b) (q : Q (g a b) H) : rI C g (.int a) (.int b) H Q := ⟨a, b, rfl, rfl, c, q⟩
theorem x_U {g : Int → V} {a : Int} (q : Q (g a) H) : rU g (.int a) H Q := ⟨a, rfl, q⟩
theorem x_eq (hs : scal x y = true) (q : Q (.bl (decide (x = y))) H) : rEq x y H Q := ⟨hs, q⟩
theorem x_ne (hs : scal x y = true) (q : Q (.bl (!decide (x = y))) H) : rNe x y H Q := ⟨hs, q⟩
theorem x_test {R : Bool → Hp → Prop} (h : te σ H fun x H' => ∃ k, x = .bl k ∧ R k H') : tTest te σ H R := h
theorem x_tB {R : Bool → Hp → Prop} (h : te σ H fun x H' => ∃ k, x = .bl k ∧ R k H') : tB te σ H R := h
theorem x_bl {R : Bool → Prop} {b : Bool} (q : R b) : ∃ k, V.bl b = V.bl k ∧ R k := ⟨b, rfl, q⟩
theorem x_and {R : Bool → Hp → Prop} (h : tt σ H fun c H1 => if c = true then tu σ H1 R else R false H1) : tAnd tt tu σ H R := h
theorem x_or {R : Bool → Hp → Prop} (h : tt σ H fun c H1 => if c = true then R true H1 else tu σ H1 R) : tOr tt tu σ H R := h
theorem x_not {R : Bool → Hp → Prop} (h : tt σ H fun c H1 => R (!c) H1) : tNot tt σ H R := h
theorem x_ifE (h : tt σ H fun c H1 => if c = true then ta σ H1 Q else tb σ H1 Q) : tIf tt ta tb σ H Q := h
theorem x_chain {r r' : R2} (h : ta σ H fun x H1 => tb σ H1 fun y H2 => r x y H2 fun z H3 => ∃ k, z = .bl k ∧ (if k = true then tc σ H3 fun w' H4 => r' y w' H4 Q else Q (.bl false) H3)) : tChain r r' ta tb tc σ H Q := h
theorem x_andV (h : ta σ H fun x H1 => ∃ c, x = .bl c ∧ if c = true then tb σ H1 Q else Q (.bl false) H1) : tAndV ta tb σ H Q := h
theorem x_orV (h : ta σ H fun x H1 => ∃ c, x = .bl c ∧ if c = true then Q (.bl true) H1 else tb σ H1 Q) : tOrV ta tb σ H Q := h
theorem x_notV (h : ta σ H fun x H1 => ∃ c, x = .bl c ∧ Q (.bl (!c)) H1) : tNotV ta σ H Q := h
theorem x_nil {R : List V → Hp → Prop} (q : R [] H) : tNil σ H R := q
theorem x_cons {tr : TA} {R : List V → Hp → Prop} (h : ta σ H fun x H1 => tr σ H1 fun xs H2 => R (x :: xs) H2) : tCons ta tr σ H R := h
def NewTup (Q : VK) (xs : List V) (H : Hp) : Prop := xs.length ≤ sizeLine ∧ ∀ p, H p = none → Q (.ref p) (upd H p (.tup xs))
def NewLst (Q : VK) (xs : List V) (H : Hp) : Prop := xs.length ≤ sizeLine ∧ ∀ p, H p = none → Q (.ref p) (upd H p (.lst xs))
theorem x_tup {t : TA} (h : t σ H fun xs H1 => NewTup Q xs H1) : tTup t σ H Q := h
theorem x_lst {t : TA} (h : t σ H fun xs H1 => NewLst Q xs H1) : tLst t σ H Q := h
theorem x_call {sp : Sp} {dvs : List V} {E : XK} {t : TA} (h : t σ H fun vs H1 => sp (vs ++ dvs) H1 Q E) : tCall sp dvs E t σ H Q := h
theorem x_cb {r : List V → Hp → VK → Prop} {t : TA} (h : t σ H fun vs H1 => r vs H1 Q) : tCB r t σ H Q := h
theorem x_new (s : S F cs H) {o : HO} (k : ∀ p H', S F ((p, o) :: cs) H' → Q (.ref p) H') : ∀ p, H p = none → Q (.ref p) (upd H p o) := fun p hp => k p _ (s.alloc hp)
theorem x_newz (s : S F cs H) {o : HO} {A : Prop} (a : A) (k : ∀ p H', S F ((p, o) :: cs) H' → Q (.ref p) H') : A ∧ ∀ p, H p = none → Q (.ref p) (upd H p o) := ⟨a, fun p hp => k p _ (s.alloc hp)⟩
theorem sz4 {n : Nat} (h : n ≤ 10000) : n ≤ sizeLine := Nat.le_trans h (by decide)
theorem x_newT {xs : List V} (hl : xs.length ≤ 10000) (s : S F cs H) (k : ∀ p H', S F ((p, .tup xs) :: cs) H' → Q (.ref p) H') : NewTup Q xs H := ⟨sz4 hl, fun p hp => k p _ (s.alloc hp)⟩
theorem x_newL {xs : List V} (hl : xs.length ≤ 10000) (s : S F cs H) (k : ∀ p H', S F ((p, .lst xs) :: cs) H' → Q (.ref p) H') : NewLst Q xs H := ⟨sz4 hl, fun p hp => k p _ (s.alloc hp)⟩
theorem x_if {p A B : Prop} {_ : Decidable p} (h1 : p → A) (h2 : ¬ p → B) : if decide p = true then A else B := by
  by_cases h : p
  · rw [decide_eq_true h, if_pos rfl]; exact h1 h
  · rw [decide_eq_false h, if_neg Bool.false_ne_true]; exact h2 h
theorem x_ifn {p A B : Prop} {_ : Decidable p} (h1 : ¬ p → A) (h2 : p → B) : if (!decide p) = true then A else B := by
  by_cases h : p
  · rw [decide_eq_true h]; exact h2 h
  · rw [decide_eq_false h]; exact h1 h
theorem x_ifb {b : Bool} {A B : Prop} (h1 : b = true → A) (h2 : b = false → B) : if b = true then A else B := by
  cases b
  · exact h2 rfl
  · exact h1 rfl
theorem x_ntF {A B : Prop} (q : A) : if (!false) = true then A else B := q
theorem x_ntT {A B : Prop} (q : B) : if (!true) = true then A else B := q
theorem x_share {p A B : Prop} {_ : Decidable p} (hF : B) (hT : p → B → A) : if decide p = true then A else B := x_if (fun h => hT h hF) fun _ => hF
theorem x_share_or {p A B : Prop} {_ : Decidable p} (hT : A) (hF : ¬ p → A → B) : if decide p = true then A else B := x_if (fun _ => hT) fun h => hF h hT
theorem x_yes {b : Bool} {A B : Prop} (h : b = true) (q : A) : if b = true then A else B := by rw [if_pos h]; exact q
theorem x_no {b : Bool} {A B : Prop} (h : b = false) (q : B) : if b = true then A else B := by rw [if_neg (by rw [h]; exact Bool.false_ne_true)]; exact q
end
end My

/-! ### rules by values, several kinds at once -/
namespace My
open PySem PySem.Spec L2
theorem pi_sq {X : Cx} {tg l : Expr} {tl : TE} (hl : PE X l tl) :
    PI X tg l (fun σ H R => tl σ H fun x H1 => ∃ a, x = .ref a ∧ (((∃ xs, SqL X.K H1 a xs) ∧ R (Itl X.K a) H1) ∨ ((∃ xs, SqT X.K H1 a xs) ∧ R (Itt X.K a) H1))) := by
  constructor
  intro pins s σ H R I h
  refine thn (hl.run pins s σ H _ I h) ?_
  rintro v s1 ⟨x, H1, I1, r1, a, rfl, q1⟩
  cases r1
  have fresh : ∀ b ∈ [s1.heap.objs.size], FpOk X pins H1 b := by
    intro b hb
    cases List.mem_singleton.mp hb
    exact I1.fpOk (Nat.le_refl _) (I1.hok.fresh (Nat.le_refl _))
  rcases q1 with ⟨⟨xs, hq⟩, q⟩ | ⟨⟨xs, hq⟩, q⟩
  · obtain ⟨its, _, p, _⟩ := I1.list hq
    refine wpAny_pyIter_list p.isList ⟨s1.heap.objs.size, [s1.heap.objs.size], _, _, H1, rfl, ?_, turn_list a _, ⟨_, Heap.get?_push_size _ rfl, rfl, rfl⟩, fresh, q⟩
    exact I1.kept (t' := s1.toks) fun b o e => Heap.get?_push_of_some _ e
  · obtain ⟨its, _, p, _⟩ := I1.tuple hq
    refine wpAny_pyIter_tuple (items := its.toArray) p ⟨s1.heap.objs.size, [s1.heap.objs.size], _, _, H1, rfl, ?_, turn_tuple a _, ⟨_, Heap.get?_push_size _ rfl, rfl, rfl⟩, fresh, q⟩
    exact I1.kept (t' := s1.toks) fun b o e => Heap.get?_push_of_some _ e
end My
namespace My
open PySem PySem.Spec L2
section
variable {X : Cx}
def rI2 (C : Int → Int → Prop) (g : Int → Int → V) : R2 := rI C g
abbrev rSub1 : R2 := rI0 fun i j => .int (i - j)
abbrev rDiv1 : R2 := rI CDivW fun i j => .int (i / j)
def rMod1 : R2 := rI (fun _ j => 0 < j) fun i j => .int (i % j)
theorem op_mod1 : OpR X (binaryOp .Mod) rMod1 := by
  intro pins s σ H x y v u Q I rx ry h
  obtain ⟨i, j, rfl, rfl, hj, q⟩ := h
  refine op_modN pins s σ H _ _ v u Q I rx ry ⟨i, j, rfl, rfl, by omega, ?_⟩
  show Q (.int (i.fmod j)) H
  rw [Int.fmod_eq_emod_of_nonneg i (by omega)]
  exact q
/-- + of ints, texts, lists, tuples -/
def rAdd1 (K : PySem.W.Frag) : R2 := fun x y H Q => rI0 (fun i j => .int (i + j)) x y H Q ∨ (∃ i j, x = .str i ∧ y = .str j ∧ i.length + j.length ≤ sizeLine ∧ Q (.str (i ++ j)) H) ∨ rCat x y H Q ∨ rCatA K x y H Q
theorem op_add1 : OpR X (binaryOp .Add) (rAdd1 X.K) := op_add.or (op_add_str.or (op_cat.or op_catA))
/-- text * int -/
def rRepS : R2 := fun x y H Q => ∃ z n, x = .str z ∧ y = .int n ∧ MulOk z n ∧ Q (.str (Txt.mul z n)) H
theorem op_repS : OpR X (binaryOp .Mult) rRepS := by
  rintro pins s σ H x y v u Q I rx ry ⟨z, n, rfl, rfl, ok, q⟩
  obtain ⟨t, rfl⟩ := rx
  obtain ⟨t', rfl⟩ := ry
  exact SB.mul ok fun t2 k => ⟨.str (Txt.mul z n), H, I.tok k, ⟨_, rfl⟩, q⟩
/-- tuple * 1 is the tuple -/
theorem tuple_mul1 (l : Addr) (items : Array Value) (n : Nat) (dd : Option Addr) (sl : Array (Option Value)) (u : Tok) :
    Meets (Builtin.«tuple.__mul__» ⟨[.ref l, .int 1 u], []⟩) (fun _ R s => s.heap.get? l = some { cls := .type "tuple", dict := dd, data := .seq items n, slots := sl } ∧ R (.ok (.ret (Value.ref l))) s) :=
  .of_wp fun prog w A R s h => by
    obtain ⟨hp, g, d, tk, os⟩ := s
    obtain ⟨hl, h⟩ := h
    have f1 := AutoSeq1.idx_int
    wp_walk using wpAny_loadPart' hl
    repeat (first
      | (refine wpAny_ite_false (by decide) ?_; wp_walk using wpAny_loadPart' hl)
      | (refine wpAny_ite_true (by simp) ?_; wp_walk using wpAny_loadPart' hl))
    exact ⟨_, rfl, h⟩
def rRepT1 (K : PySem.W.Frag) : R2 := fun x y H Q => ∃ l xs, x = .ref l ∧ y = .int 1 ∧ SqT K H l xs ∧ Q (.ref l) H
theorem op_repT1 : OpR X (binaryOp .Mult) (rRepT1 X.K) := by
  rintro pins s σ H x y v u Q I rx ry ⟨l, xs, rfl, rfl, hT, q⟩
  cases rx
  obtain ⟨t, rfl⟩ := ry
  obtain ⟨its, r, ⟨⟨cls, dd, data, sl⟩, ho, hc, n, hd⟩, hs⟩ := I.tuple hT
  simp only at hc hd
  subst hc hd
  exact wpAny_binaryOp_repeat_ref (T := "tuple") (U := "int") (by decide) ⟨_, ho, rfl⟩ (fun s' => typeIs_int s' 1 t) noFill_tuple_mul PySem.F.fills_int_mul PySem.F.slot_int_rmul repeat_tuple PySem.F.slot_int_index.lookup
    (call_meets PySem.F.slot_int_rmul (typeIs_int s 1 t) PySem.F.entry_int_rmul (PySem.F.args_int_rmul_2 _ _) (int_rmul_tuple 1 t l its.toArray n dd sl) ⟨ho, rfl, ⟨_, ho, rfl⟩, call_meets PySem.F.slot_tuple_mul ⟨_, ho, rfl⟩ PySem.F.entry_tuple_mul (PySem.F.args_tuple_mul_2 _ _) (tuple_mul1 l its.toArray n dd sl t) ⟨ho, .ref l, H, I, rfl, q⟩⟩)
def rMul1 (K : PySem.W.Frag) : R2 := fun x y H Q => rI (fun i j => CMul i j ∨ CMulW i j) (fun i j => .int (i * j)) x y H Q ∨ rRep x y H Q ∨ rRepT K x y H Q ∨ rRepS x y H Q ∨ rRepT1 K x y H Q
theorem op_mulX1 : OpR X (binaryOp .Mult) (rI (fun i j => CMul i j ∨ CMulW i j) fun i j => .int (i * j)) := by
  intro pins s σ H x y v u Q I rx ry h
  obtain ⟨i, j, rfl, rfl, hc | hc, q⟩ := h
  · exact op_mul pins s σ H _ _ v u Q I rx ry ⟨i, j, rfl, rfl, hc, q⟩
  · exact op_mulW pins s σ H _ _ v u Q I rx ry ⟨i, j, rfl, rfl, hc, q⟩
theorem op_mul1 : OpR X (binaryOp .Mult) (rMul1 X.K) := op_mulX1.or (op_rep.or (op_repT.or (op_repS.or op_repT1)))
def rEq1 (K : PySem.W.Frag) : R2 := fun x y H Q => rEq x y H Q ∨ rEqD K x y H Q
def rNe1 (K : PySem.W.Frag) : R2 := fun x y H Q => rNe x y H Q ∨ rNeD K x y H Q
theorem op_eq1 (hu : X.A.units + 64 < cLine) : OpR X (compareOp .Eq) (rEq1 X.K) := op_eq.or (op_eqD hu)
theorem op_ne1 (hu : X.A.units + 64 < cLine) : OpR X (compareOp .NotEq) (rNe1 X.K) := op_ne.or (op_neD hu)
abbrev rLt1 : R2 := rI0 fun i j => .bl (decide (i < j))
abbrev rLe1 : R2 := rI0 fun i j => .bl (decide (i ≤ j))
abbrev rGt1 : R2 := rI0 fun i j => .bl (decide (j < i))
abbrev rGe1 : R2 := rI0 fun i j => .bl (decide (j ≤ i))
/-- one sign in a text | an item of a sequence -/
def rIn1 (K : PySem.W.Frag) : R2 := fun x y H Q => (∃ (c : Nat) (z : Str), x = .str ⟨#[c]⟩ ∧ y = .str z ∧ Q (.bl (decide (c ∈ z.cps.toList))) H) ∨ rIn K false x y H Q
def rNotIn1 (K : PySem.W.Frag) : R2 := fun x y H Q => (∃ (c : Nat) (z : Str), x = .str ⟨#[c]⟩ ∧ y = .str z ∧ Q (.bl (!decide (c ∈ z.cps.toList))) H) ∨ rIn K true x y H Q
theorem op_in1 : OpR X (compareOp .In) (rIn1 X.K) := op_in_sign.or op_in_seq
theorem op_notIn1 : OpR X (compareOp .NotIn) (rNotIn1 X.K) := op_notIn_sign.or op_notIn_seq
/-- is None, is True, is False (also of other things) -/
def rIs1 : R2 := fun x y H Q => (y = .non ∧ Q (.bl (decide (x = .non))) H) ∨ ∃ b, y = .bl b ∧ Q (.bl (decide (x = .bl b))) H
def rIsNot1 : R2 := fun x y H Q => y = .non ∧ Q (.bl (!decide (x = .non))) H
theorem op_isNot1 : OpR X (compareOp .IsNot) rIsNot1 := op_notN
theorem op_isC : OpR X (compareOp .Is) (fun x y H Q => ∃ b, y = .bl b ∧ Q (.bl (decide (x = .bl b))) H) := by
  intro pins s σ H x y v u Q I rx ry h
  obtain ⟨b, rfl, q⟩ := h
  cases ry
  show wpAny _ _ ((isSame v (Value.bool b)) >>= fun z => pure (Value.bool z)) _ _ s
  refine wpAny_bind ?_
  refine wpAny_isSame_plain ?_ ?_
  · cases x <;> first
      | (cases rx; rfl)
      | (obtain ⟨t, rfl⟩ := rx; rfl)
  · have e : (v == Value.bool b) = decide (x = .bl b) := by
      cases x with
      | bl a =>
        cases rx
        rw [Bool.eq_iff_iff]
        simp
      | _ => first
          | (cases rx; symm; rw [decide_eq_false (by intro z; cases z)]; rfl)
          | (obtain ⟨t, rfl⟩ := rx; symm; rw [decide_eq_false (by intro z; cases z)]; rfl)
    rw [e]
    exact wpAny_pure ⟨.bl (decide (x = .bl b)), H, I, rfl, q⟩
theorem op_is1 : OpR X (compareOp .Is) rIs1 := op_isN.or op_isC
def rLen1 (K : PySem.W.Frag) : List V → Hp → VK → Prop := fun xs H Q => (∃ p ys, xs = [.ref p] ∧ (SqL K H p ys ∨ SqT K H p ys) ∧ Q (.int ys.length) H) ∨ (∃ z, xs = [.str z] ∧ z.length ≤ sizeLine ∧ Q (.int z.length) H)
theorem callOr {f : Value} {r r' : List V → Hp → VK → Prop} (h : CallR X f r) (h' : CallR X f r') : CallR X f (fun xs H Q => r xs H Q ∨ r' xs H Q) := by
  intro pins s σ H xs us Q I rr q
  rcases q with q | q
  · exact h pins s σ H xs us Q I rr q
  · exact h' pins s σ H xs us Q I rr q
theorem call_len1 : CallR X (.builtin "len") (rLen1 X.K) := callOr call_len_seq call_len_str
def rInt1 : List V → Hp → VK → Prop := fun xs H Q => ((∃ i, xs = [.int i] ∧ Q (.int i) H) ∨ ∃ k, xs = [.bl k] ∧ Q (.int (if k then 1 else 0)) H) ∨ (∃ a n, xs = [.str a] ∧ PySem.intText? a = some n ∧ a.length ≤ 640 ∧ Q (.int n) H)
theorem call_int_1 : CallR X (.type "int") rInt1 := callOr call_int1 call_int_str
def rAbs1 : List V → Hp → VK → Prop := fun xs H Q => ∃ i, xs = [.int i] ∧ Q (.int (if i < 0 then -i else i)) H
theorem call_abs1 : CallR X (.builtin "abs") rAbs1 := call_abs
def rList1 (K : PySem.W.Frag) : List V → Hp → VK → Prop := fun xs H Q => ∃ p ys, xs = [.ref p] ∧ (SqL K H p ys ∨ SqT K H p ys) ∧ ∀ l, H l = none → Q (.ref l) (upd H l (.lst ys))
theorem call_list1 : CallR X (.type "list") (rList1 X.K) := call_list_of
def rTuple1 (K : PySem.W.Frag) : List V → Hp → VK → Prop := fun xs H Q => ∃ p ys, xs = [.ref p] ∧ ((SqL K H p ys ∧ ∀ l, H l = none → Q (.ref l) (upd H l (.tup ys))) ∨ (SqT K H p ys ∧ Q (.ref p) H))
theorem call_tuple1 : CallR X (.type "tuple") (rTuple1 X.K) := call_tuple_of
def rIx1 (K : PySem.W.Frag) : R2 := rIx K
theorem ix_1 : IxR X (rIx1 X.K) := ix_seq
def rBitAnd1 : R2 := rI0 fun i j => .int (Builtin.bitAnd i j)
def rBitOr1 : R2 := rI0 fun i j => .int (Builtin.bitOr i j)
def rBitXor1 : R2 := rI0 fun i j => .int (Builtin.bitXor i j)
def rShl1 : R2 := rI CShl fun i j => .int (i * 2 ^ j.toNat)
def rShr1 : R2 := rI (fun _ j => 0 ≤ j) fun i j => .int (i / 2 ^ j.toNat)
def rPow1 : R2 := rI CPow fun i j => .int (i ^ j.toNat)
theorem op_band1 : OpR X (binaryOp .BitAnd) rBitAnd1 := op_and
theorem op_bor1 : OpR X (binaryOp .BitOr) rBitOr1 := op_or
theorem op_bxor1 : OpR X (binaryOp .BitXor) rBitXor1 := op_xor
theorem op_shl1 : OpR X (binaryOp .LShift) rShl1 := op_shlW
theorem op_shr1 : OpR X (binaryOp .RShift) rShr1 := op_shr
theorem op_pow1 : OpR X (binaryOp .Pow) rPow1 := op_pow
def rNeg1 : V → Hp → VK → Prop := rU fun i => .int (-i)
theorem un_neg1 : UnR X (unaryOp .USub) rNeg1 := un_neg
/-- a test by a value's truth -/
def tTr (K : PySem.W.Frag) (ta : TE) : TT := fun σ H Q => ta σ H fun x H' => ∃ k, TruV K x H' k ∧ Q k H'
theorem pt_tr {a : Expr} {ta : TE} (ha : PE X a ta) (he : ∀ whole, isTrue a X.env whole = (do let v ← whole; standAt a.pos; holding [v] (truthy v))) : PT X a (tTr X.K ta) := pt_truth ha he
/-- a for over a list or a tuple -/
def iSq (K : PySem.W.Frag) (tl : TE) : TI := fun σ H R => tl σ H fun x H1 => ∃ a, x = .ref a ∧ (((∃ xs, SqL K H1 a xs) ∧ R (Itl K a) H1) ∨ ((∃ xs, SqT K H1 a xs) ∧ R (Itt K a) H1))
theorem pi_sq1 {tg l : Expr} {tl : TE} (hl : PE X l tl) : PI X tg l (iSq X.K tl) := pi_sq hl
end

/-! ### a def of the text as callers see it -/
def rIsi1 (K : PySem.W.Frag) : List V → Hp → VK → Prop := fun xs H Q => rIsi K xs H Q ∨ rIsiT K xs H Q
theorem call_isi1 {X : Cx} : CallR X (.builtin "isinstance") (rIsi1 X.K) := callOr call_isi call_isiT
def rSplit1 : V → List V → Hp → VK → Prop := fun x xs H Q => ∃ a b, x = .str a ∧ xs = [.str b] ∧ (b.length == 0) = false ∧ a.length + 2 ≤ sizeLine ∧ rNewStrs (Txt.split a b) H Q
def rFind1 : V → List V → Hp → VK → Prop := fun x xs H Q => ∃ a b, x = .str a ∧ xs = [.str b] ∧ Q (.int (Txt.find a b)) H
section
variable {X : Cx} {o e : Expr} {to te : TE} {apos pos : Pos}
theorem pe_split1 (ho : PE X o to) (he : PE X e te) (hs : starEach [e] X.env = [(false, eval e X.env)] := by rfl) (hbase : attributeBase o "split" X.env (eval o X.env) = eval o X.env := by rfl) (hline : (apos.endLine == pos.line) = true := by rfl) :
    PE X (.Call (.Attribute o "split" apos) [e] [] pos) (tM1 rSplit1 to te) := pe_split ho he hs hbase hline
theorem pe_find1 (ho : PE X o to) (he : PE X e te) (hs : starEach [e] X.env = [(false, eval e X.env)] := by rfl) (hbase : attributeBase o "find" X.env (eval o X.env) = eval o X.env := by rfl) (hline : (apos.endLine == pos.line) = true := by rfl) :
    PE X (.Call (.Attribute o "find" apos) [e] [] pos) (tM1 rFind1 to te) := pe_m1 PySem.F.slot_str_find PySem.F.type_str_find mt_find ho he hs hbase hline
theorem pe_int_g {x : Str} {i : Int} {pos : Pos} (hg : Gl X x) (hm : ∃ t, X.mg x = some (.int i t)) (hd : (x == ("__debug__" : Str)) = false := by decide) : PE X (.Name x pos) (tC (.int i)) := by
  obtain ⟨t, hm⟩ := hm
  exact pe_glob hg hm ⟨_, rfl⟩ hd
theorem pe_str_g {x z : Str} {pos : Pos} (hg : Gl X x) (hm : ∃ t, X.mg x = some (.str z t)) (hd : (x == ("__debug__" : Str)) = false := by decide) : PE X (.Name x pos) (tC (.str z)) := by
  obtain ⟨t, hm⟩ := hm
  exact pe_glob hg hm ⟨_, rfl⟩ hd
end
structure DefOk (P : Program) (w : World) (K : PySem.W.Frag) (mg : Str → Option Value) (base : Heap) (x : Str) (k : Nat) (ps : List Str) (ds : List V) (sp : Sp) : Prop where
  ex : ∃ (f : Addr) (fd : FuncData) (dsv : List Value), FnOk P w K mg base (L2.CX P w) k f fd ps sp ∧ mg x = some (.ref f) ∧ PySem.W.keepIn K (.ref f) = true ∧ Binds K fd ps dsv ∧ Vals ds dsv
section
variable {X : Cx} {k : Nat} {sp : Sp} {E : XK} {x : Str} {p pos : Pos} {e : Expr} {es : List Expr} {t : TA} {ps : List Str} {ds : List V}
theorem pe_def (D : DefOk X.prog X.w X.K X.mg X.base x k ps ds sp) (hr : Room k X.A) (hg : Gl X x) (hx : Passes (L2.CX X.prog X.w) X E) (ha : PA X (e :: es) t)
    (hdb : (x == ("__debug__" : Str)) = false := by decide) (he : starEach (e :: es) X.env = (false, eval e X.env) :: starEach es X.env := by rfl) (hpl : (backTo pos (starEach es X.env)).any (·.1) = false := by rfl) :
    PE X (.Call (.Name x p) (e :: es) [] pos) (tCall sp ds E t) := by
  obtain ⟨f, fd, dsv, F, hm, hk, hb, hv⟩ := D.ex
  exact pe_call F hr hg hm hk hb hv hx ha hdb he hpl
theorem pe_def0 (D : DefOk X.prog X.w X.K X.mg X.base x k ps ds sp) (hr : Room k X.A) (hg : Gl X x) (hx : Passes (L2.CX X.prog X.w) X E)
    (hdb : (x == ("__debug__" : Str)) = false := by decide) : PE X (.Call (.Name x p) [] [] pos) (tCall sp ds E tNil) := by
  obtain ⟨f, fd, dsv, F, hm, hk, hb, hv⟩ := D.ex
  exact pe_call0 F hr hg hm hk hb hv hx hdb
end
theorem hu64 {k : Nat} {A : Around} (hr : Room k A) : A.units + 64 < cLine := Nat.lt_of_le_of_lt (Nat.le_refl _) hr.units
end My

/-! ### steps over the rules of several kinds -/
namespace My
open PySem PySem.Spec L2
section
variable {σ σ' : L2.St} {H : Hp} {Q : VK} {K : PySem.W.Frag} {F : Hp → Prop} {cs : List (Addr × HO)} {p q : Addr} {x y v : V} {xs ys : List V} {i j : Int}
theorem x_start {t : TS} {D : Ends} {N : List Str} {vs : List V} (h : t D σ' H) (e : start N vs = σ') : t D (start N vs) H := by rw [e]; exact h
theorem x_addI (q : Q (.int (i + j)) H) : rAdd1 K (.int i) (.int j) H Q := .inl ⟨i, j, rfl, rfl, q⟩
theorem x_addS {a b : Str} (h : a.length + b.length ≤ sizeLine) (q : Q (.str (a ++ b)) H) : rAdd1 K (.str a) (.str b) H Q := .inr (.inl ⟨a, b, rfl, rfl, h, q⟩)
theorem x_addL (s : S F cs H) (h1 : (p, .lst xs) ∈ cs) (h2 : (q, .lst ys) ∈ cs) (h : xs.length + ys.length ≤ sizeLine) (k : ∀ r H', S F ((r, .lst (xs ++ ys)) :: cs) H' → Q (.ref r) H') : rAdd1 K (.ref p) (.ref q) H Q :=
  .inr (.inr (.inl ⟨p, q, xs, ys, rfl, rfl, s.has h1, s.has h2, h, fun r hr => k r _ (s.alloc hr)⟩))
theorem x_mulI (c : CMul i j ∨ CMulW i j) (q : Q (.int (i * j)) H) : rMul1 K (.int i) (.int j) H Q := .inl ⟨i, j, rfl, rfl, c, q⟩
theorem cmul_l (h : -(2 ^ 64) < i ∧ i < 2 ^ 64) : CMul i j ∨ CMulW i j := .inl (.inl h)
theorem cmul_r (h : -(2 ^ 64) < j ∧ j < 2 ^ 64) : CMul i j ∨ CMulW i j := .inl (.inr h)
theorem x_mod (h : 0 < j) (q : Q (.int (i % j)) H) : rMod1 (.int i) (.int j) H Q := ⟨i, j, rfl, rfl, h, q⟩
theorem x_eqS (hs : scal x y = true) (q : Q (.bl (decide (x = y))) H) : rEq1 K x y H Q := .inl ⟨hs, q⟩
theorem x_neS (hs : scal x y = true) (q : Q (.bl (!decide (x = y))) H) : rNe1 K x y H Q := .inl ⟨hs, q⟩
theorem dec_intV : (V.int i = V.int j) = (i = j) := by simp
theorem x_eqI (q : Q (.bl (decide (i = j))) H) : rEq1 K (.int i) (.int j) H Q := .inl ⟨rfl, by simp only [V.int.injEq]; exact q⟩
theorem x_neI (q : Q (.bl (!decide (i = j))) H) : rNe1 K (.int i) (.int j) H Q := .inl ⟨rfl, by simp only [V.int.injEq]; exact q⟩
theorem x_lenL (h : SqL K H p xs ∨ SqT K H p xs) (q : Q (.int xs.length) H) : rLen1 K [.ref p] H Q := .inl ⟨p, xs, rfl, h, q⟩
theorem x_lenC (s : S F cs H) (h : (p, .lst xs) ∈ cs) (q : Q (.int xs.length) H) : rLen1 K [.ref p] H Q := .inl ⟨p, xs, rfl, .inl (sq_l (s.has h)), q⟩
theorem x_lenS {z : Str} (h : z.length ≤ sizeLine) (q : Q (.int z.length) H) : rLen1 K [.str z] H Q := .inr ⟨z, rfl, h, q⟩
theorem x_ixL (h : SqL K H p xs) (e : atI xs i = some v) (q : Q v H) : rIx1 K (.ref p) (.int i) H Q := .inl ⟨p, xs, i, v, rfl, rfl, h, e, q⟩
theorem x_ixT (h : SqT K H p xs) (e : atI xs i = some v) (q : Q v H) : rIx1 K (.ref p) (.int i) H Q := .inr (.inl ⟨p, xs, i, v, rfl, rfl, h, e, q⟩)
theorem x_ixS {z : Str} {c : Nat} (h : z.length ≤ sizeLine) (e : atI z.cps.toList i = some c) (q : Q (.str ⟨#[c]⟩) H) : rIx1 K (.str z) (.int i) H Q := .inr (.inr ⟨z, i, c, rfl, rfl, h, e, q⟩)
theorem x_ixC (s : S F cs H) (h : (p, .lst xs) ∈ cs) (e : atI xs i = some v) (q : Q v H) : rIx1 K (.ref p) (.int i) H Q := x_ixL (sq_l (s.has h)) e q
theorem x_ixCT (s : S F cs H) (h : (p, .tup xs) ∈ cs) (e : atI xs i = some v) (q : Q v H) : rIx1 K (.ref p) (.int i) H Q := x_ixT (sq_t (s.has h)) e q
theorem x_int (q : Q (.int i) H) : rInt1 [.int i] H Q := .inl (.inl ⟨i, rfl, q⟩)
theorem x_intB {b : Bool} (q : Q (.int (if b then 1 else 0)) H) : rInt1 [.bl b] H Q := .inl (.inr ⟨b, rfl, q⟩)
theorem x_intS {z : Str} {n : Int} (h : PySem.intText? z = some n) (hl : z.length ≤ 640) (q : Q (.int n) H) : rInt1 [.str z] H Q := .inr ⟨z, n, rfl, h, hl, q⟩
theorem x_abs (q : Q (.int (if i < 0 then -i else i)) H) : rAbs1 [.int i] H Q := ⟨i, rfl, q⟩
theorem x_isN (q : Q (.bl (decide (x = .non))) H) : rIs1 x .non H Q := .inl ⟨rfl, q⟩
theorem x_isB {b : Bool} (q : Q (.bl (decide (x = .bl b))) H) : rIs1 x (.bl b) H Q := .inr ⟨b, rfl, q⟩
theorem x_notN (q : Q (.bl (!decide (x = .non))) H) : rIsNot1 x .non H Q := ⟨rfl, q⟩
theorem x_neg (q : Q (.int (-i)) H) : rNeg1 (.int i) H Q := ⟨i, rfl, q⟩
theorem x_pow (h : CPow i j) (q : Q (.int (i ^ j.toNat)) H) : rPow1 (.int i) (.int j) H Q := ⟨i, j, rfl, rfl, h, q⟩
theorem x_div (h : CDivW i j) (q : Q (.int (i / j)) H) : rDiv1 (.int i) (.int j) H Q := ⟨i, j, rfl, rfl, h, q⟩
theorem cdiv (h0 : 0 < j) (h : j < 2 ^ 8000) : CDivW i j := wide_div h0 (b := 8000) (by omega) (by decide) (by decide)
theorem x_tr {ta : TE} {R : Bool → Hp → Prop} (h : ta σ H fun x H' => ∃ k, TruV K x H' k ∧ R k H') : tTr K ta σ H R := h
theorem x_trB {b : Bool} {R : Bool → Prop} (q : R b) : ∃ k, TruV K (.bl b) H k ∧ R k := ⟨b, rfl, q⟩
theorem x_gsub {to ti : TE} {t : TSet} {R : L2.St → Hp → Prop} (h : to σ H fun o H1 => ti σ H1 fun i H2 => t o i v H2 fun H3 => R σ H3) : gSub to ti t v σ H R := h
theorem x_setL (s : S F cs H) {k : Nat} (hc : cs[k]? = some (p, .lst xs)) {n : Nat} (e : ixN xs.length i = some n) {R : Hp → Prop} (q : ∀ H', S F (cs.set k (p, .lst (xs.set n v))) H' → R H') : rSetL (.ref p) (.int i) v H R :=
  ⟨p, xs, i, n, rfl, rfl, s.at k hc, e, q _ (s.set k hc _)⟩
theorem x_append (s : S F cs H) {k : Nat} (hc : cs[k]? = some (p, .lst xs)) (hl : xs.length < sizeLine) (q : ∀ H', S F (cs.set k (p, .lst (xs ++ [v]))) H' → Q .non H') : rAppend (.ref p) [v] H Q :=
  ⟨p, xs, v, rfl, rfl, s.at k hc, hl, q _ (s.set k hc _)⟩
theorem x_bm {T : String} {r : V → List V → Hp → VK → Prop} {to : TE} {t : TA} (h : to σ H fun x H1 => tyV K T x H1 ∧ t σ H1 fun xs H2 => r x xs H2 Q) : tBM K T r to t σ H Q := h
theorem x_tyL (h : SqL K H p xs) {A : Prop} (q : A) : tyV K "list" (.ref p) H ∧ A := ⟨.inl ⟨rfl, xs, h⟩, q⟩
theorem x_tyC (s : S F cs H) (h : (p, .lst xs) ∈ cs) {A : Prop} (q : A) : tyV K "list" (.ref p) H ∧ A := ⟨.inl ⟨rfl, xs, sq_l (s.has h)⟩, q⟩
theorem perm_front {α : Type} : ∀ {l : List α} {k : Nat} {x : α}, l[k]? = some x → (x :: l.eraseIdx k).Perm l
  | [], _, _, h => by simp at h
  | a :: r, 0, x, h => by
    have e : a = x := by simpa using h
    subst e
    exact List.Perm.refl _
  | a :: r, k + 1, x, h => by
    have ih := perm_front (l := r) (k := k) (x := x) (by simpa using h)
    exact (List.Perm.swap a x _).trans (ih.cons a)
theorem perm_set {α : Type} : ∀ {l : List α} {k : Nat} {x y : α}, l[k]? = some x → (y :: l.eraseIdx k).Perm (l.set k y)
  | [], _, _, _, h => by simp at h
  | a :: r, 0, x, y, h => List.Perm.refl _
  | a :: r, k + 1, x, y, h => by
    have ih := perm_set (l := r) (k := k) (x := x) (y := y) (by simpa using h)
    exact (List.Perm.swap a y _).trans (ih.cons a)
theorem S.front (s : S F cs H) {k : Nat} {c : Addr × HO} (h : cs[k]? = some c) : S F (c :: cs.eraseIdx k) H := by
  exact s.perm (perm_front h).symm
theorem S.back {k : Nat} {c c' : Addr × HO} (h : cs[k]? = some c) (s : S F (c' :: cs.eraseIdx k) H) : S F (cs.set k c') H := by
  exact s.perm (perm_set h)
end
end My

/-! ### loops -/
namespace My
open PySem PySem.Spec L2
/-- a list (true) or a tuple (false) that is to be read -/
def SqB : Bool → PySem.W.Frag → Hp → Addr → List V → Prop
  | true => SqL
  | false => SqT
def ItB : Bool → PySem.W.Frag → Addr → It
  | true, K, p => Itl K p
  | false, K, p => Itt K p
instance {b : Bool} {K : PySem.W.Frag} {a : Addr} {xs : List V} : Mono (fun H => SqB b K H a xs) := ⟨fun _ _ e h => by
  cases b
  · exact Same.seqT e h
  · exact Same.seq e h⟩
theorem SqB.or {b : Bool} {K : PySem.W.Frag} {H : Hp} {a : Addr} {xs : List V} (h : SqB b K H a xs) : SqL K H a xs ∨ SqT K H a xs := by
  cases b
  · exact .inr h
  · exact .inl h
section
variable {σ : L2.St} {H : Hp} {Q : VK} {K : PySem.W.Frag} {F : Hp → Prop} {cs : List (Addr × HO)} {p q : Addr} {x y v : V} {xs ys : List V} {i j : Int} {b : Bool}
variable {nx : L2.St → Hp → Prop} {rt : VK} {g : TG} {tb : TS} {tt : TT} {te : TE} {vs : List Nat}
/-- what a for asks of its iterator -/
def ForW (J : It) (σ : L2.St) (H1 : Hp) (nx : L2.St → Hp → Prop) (rt : VK) (g : TG) (tb : TS) : Prop := ∃ W : Nat → Nat → L2.St → Hp → Prop, (∃ m, W 0 m σ H1) ∧ ∀ i m σ H, W i m σ H →
  (J.stop i H ∧ nx σ H) ∨ (J.go i H ∧ ∃ N : L2.St → Hp → Prop, (∀ σ' H', N σ' H' → ∃ m', m' < m ∧ W (i + 1) m' σ' H') ∧ ∀ x H', J.yld i H x H' → g x σ H' fun σ2 H2 => tb ⟨N, rt, nx, N⟩ σ2 H2)
theorem x_forW {wi : TI} {bk ct : L2.St → Hp → Prop} (h : wi σ H fun J H1 => ForW J σ H1 nx rt g tb) : tFor wi g tb ⟨nx, rt, bk, ct⟩ σ H := h
theorem forW_it {J : It} {n : Nat} {G : Hp → Prop} {Y : Nat → Hp → V → Hp → Prop} (w : Walk J n G Y) (Pv : Nat → L2.St → Hp → Prop) (h0 : Pv 0 σ H) (hG : ∀ i σ H, i ≤ n → Pv i σ H → G H)
    (hs : ∀ i x σ H H', i < n → Pv i σ H → Y i H x H' → g x σ H' fun σ2 H2 => tb ⟨Pv (i + 1), rt, nx, Pv (i + 1)⟩ σ2 H2) (hd : ∀ σ H, Pv n σ H → nx σ H) : ForW J σ H nx rt g tb :=
  for_it (D := ⟨nx, rt, nx, nx⟩) w Pv h0 hG hs hd
theorem x_iSq {R : It → Hp → Prop} {tl : TE} (h : tl σ H fun x H1 => ∃ a, x = .ref a ∧ (((∃ xs, SqL K H1 a xs) ∧ R (Itl K a) H1) ∨ ((∃ xs, SqT K H1 a xs) ∧ R (Itt K a) H1))) : iSq K tl σ H R := h
theorem x_iR1 {R : It → Hp → Prop} {ta : TA} (h : ta σ H fun vs H1 => ∃ j : Int, vs = [.int j] ∧ -(2 ^ 62) ≤ j ∧ j < 2 ^ 62 ∧ R (Itr 0 j.toNat) H1) : iRng1 ta σ H R := h
theorem x_iR2 {R : It → Hp → Prop} {ta : TA} (h : ta σ H fun vs H1 => ∃ i j : Int, vs = [.int i, .int j] ∧ (-(2 ^ 62) ≤ i ∧ i < 2 ^ 62 ∧ -(2 ^ 62) ≤ j ∧ j < 2 ^ 62) ∧ R (Itr i (j - i).toNat) H1) : iRng2 ta σ H R := h
theorem x_iStr {R : It → Hp → Prop} {te : TE} (h : te σ H fun v H1 => ∃ x, v = .str x ∧ R (Its x) H1) : iStr te σ H R := h
theorem x_sqR {R : It → Hp → Prop} (h : SqB b K H p xs) (q : R (ItB b K p) H) : ∃ a, V.ref p = .ref a ∧ (((∃ xs, SqL K H a xs) ∧ R (Itl K a) H) ∨ ((∃ xs, SqT K H a xs) ∧ R (Itt K a) H)) := by
  cases b
  · exact ⟨p, rfl, .inr ⟨⟨xs, h⟩, q⟩⟩
  · exact ⟨p, rfl, .inl ⟨⟨xs, h⟩, q⟩⟩
theorem walk_b : Walk (ItB b K p) xs.length (fun H => SqB b K H p xs) (YAt xs) := by
  cases b
  · exact walk_tup
  · exact walk_list
/-- for x in (a list or a tuple) -/
theorem x_forB (hq : SqB b K H p xs) (Pv : Nat → L2.St → Hp → Prop) (h0 : Pv 0 σ H) (hG : ∀ i σ H, Pv i σ H → SqB b K H p xs)
    (hs : ∀ i x σ H, xs[i]? = some x → Pv i σ H → g x σ H fun σ2 H2 => tb ⟨Pv (i + 1), rt, nx, Pv (i + 1)⟩ σ2 H2) (hd : ∀ σ H, Pv xs.length σ H → nx σ H) :
    ∃ a, V.ref p = .ref a ∧ (((∃ xs, SqL K H a xs) ∧ ForW (Itl K a) σ H nx rt g tb) ∨ ((∃ xs, SqT K H a xs) ∧ ForW (Itt K a) σ H nx rt g tb)) :=
  x_sqR (R := fun J H => ForW J σ H nx rt g tb) hq (forW_it walk_b Pv h0 (fun i σ H _ h => hG i σ H h) (fun i x σ H H' hi hp y => by
    obtain ⟨rfl, hx⟩ := y
    exact hs i x σ H' hx hp) hd)
/-- for i in range(n) -/
theorem x_forR1 {n : Nat} (hj : j = (n : Int)) (hn : n < 2 ^ 61) (Pv : Nat → L2.St → Hp → Prop) (h0 : Pv 0 σ H)
    (hs : ∀ i σ H, i < n → Pv i σ H → g (.int (i : Nat)) σ H fun σ2 H2 => tb ⟨Pv (i + 1), rt, nx, Pv (i + 1)⟩ σ2 H2) (hd : ∀ σ H, Pv n σ H → nx σ H) :
    ∃ k : Int, [V.int j] = [.int k] ∧ -(2 ^ 62) ≤ k ∧ k < 2 ^ 62 ∧ ForW (Itr 0 k.toNat) σ H nx rt g tb := by
  subst hj
  refine ⟨n, rfl, by omega, by omega, ?_⟩
  have e : ((n : Int)).toNat = n := Int.toNat_natCast n
  rw [e]
  refine forW_it walk_range Pv h0 (fun _ _ _ _ _ => True.intro) (fun i x σ H H' hi hp y => ?_) hd
  obtain ⟨rfl, rfl⟩ := y
  have e0 : (0 : Int) + (i : Nat) = (i : Nat) := Int.zero_add _
  show g (.int (0 + (i : Nat))) σ H' _
  rw [e0]
  exact hs i σ H' hi hp
/-- for i in range(a, b) -/
theorem x_forR2 {n : Nat} (hi0 : -(2 ^ 61) ≤ i ∧ i < 2 ^ 61) (hj : j = i + (n : Int)) (hn : n < 2 ^ 61) (Pv : Nat → L2.St → Hp → Prop) (h0 : Pv 0 σ H)
    (hs : ∀ (m : Nat) σ H, m < n → Pv m σ H → g (.int (i + (m : Nat))) σ H fun σ2 H2 => tb ⟨Pv (m + 1), rt, nx, Pv (m + 1)⟩ σ2 H2) (hd : ∀ σ H, Pv n σ H → nx σ H) :
    ∃ k l : Int, [V.int i, V.int j] = [.int k, .int l] ∧ (-(2 ^ 62) ≤ k ∧ k < 2 ^ 62 ∧ -(2 ^ 62) ≤ l ∧ l < 2 ^ 62) ∧ ForW (Itr k (l - k).toNat) σ H nx rt g tb := by
  subst hj
  refine ⟨i, _, rfl, by omega, ?_⟩
  have e : (i + (n : Int) - i).toNat = n := by omega
  rw [e]
  refine forW_it walk_range Pv h0 (fun _ _ _ _ _ => True.intro) (fun m x σ H H' hi hp y => ?_) hd
  obtain ⟨rfl, rfl⟩ := y
  exact hs m σ H' hi hp
/-- for c in text -/
theorem x_forS {z : Str} (Pv : Nat → L2.St → Hp → Prop) (h0 : Pv 0 σ H)
    (hs : ∀ (m : Nat) c σ H, z.cps[m]? = some c → Pv m σ H → g (.str ⟨#[c]⟩) σ H fun σ2 H2 => tb ⟨Pv (m + 1), rt, nx, Pv (m + 1)⟩ σ2 H2) (hd : ∀ σ H, Pv z.cps.size σ H → nx σ H) :
    ∃ x, V.str z = .str x ∧ ForW (Its x) σ H nx rt g tb := by
  refine ⟨z, rfl, forW_it walk_str Pv h0 (fun _ _ _ _ _ => True.intro) (fun m x σ H H' hi hp y => ?_) hd⟩
  obtain ⟨rfl, c, hc, rfl⟩ := y
  exact hs m c σ H' hc hp
/-! comprehensions -/
def LcW (J : It) (σ : L2.St) (H1 : Hp) (Q : VK) (g : TG) (tt : TT) (te : TE) (vs : List Nat) : Prop := ∀ D, H1 D = none → ∃ W : Nat → Nat → Hp → Prop, (∃ m, W 0 m (upd H1 D (.lst []))) ∧ ∀ i m H, W i m H →
  (J.stop i H ∧ Q (.ref D) H) ∨ (J.go i H ∧ ∃ Nx : Hp → Prop, (∀ H', Nx H' → ∃ m', m' < m ∧ W (i + 1) m' H') ∧ ∀ x H', J.yld i H x H' → g x (wipe σ vs) H' fun σ2 H2 => wipe σ2 vs = wipe σ vs ∧ tt σ2 H2 fun b H3 =>
    if b = true then te σ2 H3 fun y H4 => ∃ acc, H4 D = some (.lst acc) ∧ acc.length < sizeLine ∧ Nx (upd H4 D (.lst (acc ++ [y]))) else Nx H3)
theorem x_lcW {wi : TI} (h : wi σ H fun J H1 => LcW J σ H1 Q g tt te vs) : tLc wi g tt te vs σ H Q := h
theorem lcW_it {J : It} {n : Nat} {G : Hp → Prop} {Y : Nat → Hp → V → Hp → Prop} (w : Walk J n G Y) (Pv : Addr → Nat → Hp → Prop) (h0 : ∀ D, H D = none → Pv D 0 (upd H D (.lst []))) (hG : ∀ D i H, i ≤ n → Pv D i H → G H)
    (hs : ∀ D i x H H', i < n → Pv D i H → Y i H x H' → g x (wipe σ vs) H' fun σ2 H2 => wipe σ2 vs = wipe σ vs ∧ tt σ2 H2 fun b H3 =>
      if b = true then te σ2 H3 fun y H4 => ∃ acc, H4 D = some (.lst acc) ∧ acc.length < sizeLine ∧ Pv D (i + 1) (upd H4 D (.lst (acc ++ [y]))) else Pv D (i + 1) H3) (hd : ∀ D H, Pv D n H → Q (.ref D) H) : LcW J σ H Q g tt te vs :=
  fun D hD => lc_it w (Pv D) (h0 D hD) (hG D) (hs D) (hd D)
theorem x_lcB (hq : SqB b K H p xs) (Pv : Addr → Nat → Hp → Prop) (h0 : ∀ D, H D = none → Pv D 0 (upd H D (.lst []))) (hG : ∀ D i H, Pv D i H → SqB b K H p xs)
    (hs : ∀ D i x H, xs[i]? = some x → Pv D i H → g x (wipe σ vs) H fun σ2 H2 => wipe σ2 vs = wipe σ vs ∧ tt σ2 H2 fun b H3 =>
      if b = true then te σ2 H3 fun y H4 => ∃ acc, H4 D = some (.lst acc) ∧ acc.length < sizeLine ∧ Pv D (i + 1) (upd H4 D (.lst (acc ++ [y]))) else Pv D (i + 1) H3) (hd : ∀ D H, Pv D xs.length H → Q (.ref D) H) :
    ∃ a, V.ref p = .ref a ∧ (((∃ xs, SqL K H a xs) ∧ LcW (Itl K a) σ H Q g tt te vs) ∨ ((∃ xs, SqT K H a xs) ∧ LcW (Itt K a) σ H Q g tt te vs)) :=
  x_sqR (R := fun J H => LcW J σ H Q g tt te vs) hq (lcW_it walk_b Pv h0 (fun D i H _ h => hG D i H h) (fun D i x H H' hi hp y => by
    obtain ⟨rfl, hx⟩ := y
    exact hs D i x H' hx hp) hd)
theorem x_lcR1 {n : Nat} (hj : j = (n : Int)) (hn : n < 2 ^ 61) (Pv : Addr → Nat → Hp → Prop) (h0 : ∀ D, H D = none → Pv D 0 (upd H D (.lst [])))
    (hs : ∀ D i H, i < n → Pv D i H → g (.int (i : Nat)) (wipe σ vs) H fun σ2 H2 => wipe σ2 vs = wipe σ vs ∧ tt σ2 H2 fun b H3 =>
      if b = true then te σ2 H3 fun y H4 => ∃ acc, H4 D = some (.lst acc) ∧ acc.length < sizeLine ∧ Pv D (i + 1) (upd H4 D (.lst (acc ++ [y]))) else Pv D (i + 1) H3) (hd : ∀ D H, Pv D n H → Q (.ref D) H) :
    ∃ k : Int, [V.int j] = [.int k] ∧ -(2 ^ 62) ≤ k ∧ k < 2 ^ 62 ∧ LcW (Itr 0 k.toNat) σ H Q g tt te vs := by
  subst hj
  refine ⟨n, rfl, by omega, by omega, ?_⟩
  have e : ((n : Int)).toNat = n := Int.toNat_natCast n
  rw [e]
  refine lcW_it walk_range Pv h0 (fun _ _ _ _ _ => True.intro) (fun D i x H H' hi hp y => ?_) hd
  obtain ⟨rfl, rfl⟩ := y
  have e0 : (0 : Int) + (i : Nat) = (i : Nat) := Int.zero_add _
  show g (.int (0 + (i : Nat))) (wipe σ vs) H' _
  rw [e0]
  exact hs D i H' hi hp
theorem x_yes0 {R : Bool → Hp → Prop} (q : R true H) : tYes σ H R := q
/-- the new item of a comprehension's list -/
theorem x_lcput {D : Addr} {acc : List V} {P : Hp → Prop} (s : S F ((D, .lst acc) :: cs) H) (hl : acc.length < sizeLine) (k : ∀ H', S F ((D, .lst (acc ++ [v])) :: cs) H' → P H') :
    ∃ acc, H D = some (.lst acc) ∧ acc.length < sizeLine ∧ P (upd H D (.lst (acc ++ [v]))) := ⟨acc, s.at 0 rfl, hl, k _ (s.set 0 rfl _)⟩
/-! isinstance -/
theorem x_isi {T U : String} {r : Bool} (ht : TyX K H x (.type T)) (hk : kitB T U = some r) (q : Q (.bl r) H) : rIsi1 K [x, .ty U] H Q :=
  .inl ⟨x, _, _, _, r, rfl, .ty U, ht, kit_ty hk, q⟩
theorem tyx_l (h : SqL K H p xs) : TyX K H (.ref p) (.type "list") := by
  rcases h with (h | ⟨o, h⟩) | ⟨o, _, _, h, hc, _⟩
  · exact .base (.lst h)
  · exact .base (.frz h)
  · exact .kList h hc
theorem tyx_t (h : SqT K H p xs) : TyX K H (.ref p) (.type "tuple") := by
  rcases h with (h | ⟨o, h⟩) | ⟨o, _, _, h, hc, _⟩
  · exact .base (.tup h)
  · exact .fTuple h
  · exact .kTuple h hc
def tyName : PyData → String
  | .none => "NoneType"
  | .bool _ => "bool"
  | .int _ => "int"
  | .str _ => "str"
  | .list _ => "list"
  | .tuple _ => "tuple"
  | _ => "object"
theorem dp_ty {d : PyData} (h : Dp K H v d) : TyX K H v (.type (tyName d)) := by
  cases h with
  | non => exact .base .non
  | bl b => exact .base (.bl b)
  | int i => exact .base (.int i)
  | str z => exact .base (.str z)
  | lst h _ => exact tyx_l h
  | tup h _ => exact tyx_t h
theorem dpAll_len {vs : List V} {ds : List PyData} (h : DpAll K H vs ds) : vs.length = ds.length := by
  induction ds generalizing vs with
  | nil => cases h; rfl
  | cons d ds ih => cases h with | cons h k => simp [ih k]
theorem dpAll_get {vs : List V} {ds : List PyData} (h : DpAll K H vs ds) {n : Nat} {d : PyData} (hd : ds[n]? = some d) : ∃ v, vs[n]? = some v ∧ Dp K H v d := by
  induction ds generalizing vs n with
  | nil => simp at hd
  | cons e ds ih =>
    cases h with
    | cons h k =>
      cases n with
      | zero => exact ⟨_, rfl, by simpa using (show e = d by simpa using hd) ▸ h⟩
      | succ n =>
        obtain ⟨w, hw, q⟩ := ih k (n := n) (by simpa using hd)
        exact ⟨w, by simpa using hw, q⟩
end
end My

namespace My
open PySem PySem.Spec L2
structure DefKw (P : Program) (w : World) (K : PySem.W.Frag) (mg : Str → Option Value) (base : Heap) (x : Str) (k : Nat) (ps : List Str) (n : Nat) (ks : List Str) (gV : List V → List V → List V) (sp : Sp) : Prop where
  ex : ∃ (f : Addr) (fd : FuncData) (g : List Value → List Value → List Value), FnOk P w K mg base (L2.CX P w) k f fd ps sp ∧ mg x = some (.ref f) ∧ PySem.W.keepIn K (.ref f) = true ∧ KBn K fd ps n ks g gV
theorem pe_defK {X : Cx} {k n : Nat} {sp : Sp} {E : XK} {x : Str} {p pos : Pos} {e : Expr} {es : List Expr} {kws : List Keyword} {t tk : TA} {ps ks : List Str} {gV : List V → List V → List V} (D : DefKw X.prog X.w X.K X.mg X.base x k ps n ks gV sp) (hr : Room k X.A) (hg : Gl X x)
    (hx : Passes (L2.CX X.prog X.w) X E) (ha : PA X (e :: es) t) (hkw : PK X kws tk) (hall : (backToKw pos (keywordEach kws X.env)).all (·.1.isSome) = true := by rfl)
    (hks : (backToKw pos (keywordEach kws X.env)).filterMap (·.1) = ks := by rfl) (hdb : (x == ("__debug__" : Str)) = false := by decide) (he : starEach (e :: es) X.env = (false, eval e X.env) :: starEach es X.env := by rfl)
    (hpl : ((backTo pos (starEach (e :: es) X.env)).any (·.1) || (backToKw pos (keywordEach kws X.env)).any (·.1.isNone)) = false := by rfl) : PE X (.Call (.Name x p) (e :: es) kws pos) (tCallN n ks.length sp gV E t tk) := by
  obtain ⟨f, fd, g, F, hm, hk, hb⟩ := D.ex
  exact pe_callN F hr hg hm hk hb hx ha hkw hall hks hdb he hpl
end My

namespace My
open PySem PySem.Spec L2
section
variable {σ : L2.St} {H : Hp} {Q : VK} {K : PySem.W.Frag} {F : Hp → Prop} {cs : List (Addr × HO)} {p q : Addr} {x y v : V} {xs ys : List V} {i j : Int} {b : Bool}
variable {g : TG} {tt : TT} {te : TE} {vs : List Nat}
theorem big_sz {n : Nat} (h : n < 10000000) : n < sizeLine := Nat.lt_of_lt_of_le h (by decide)
theorem filterMap_take {α β : Type} (f : α → Option β) {l : List α} {n : Nat} {a : α} (h : l[n]? = some a) : (l.take (n + 1)).filterMap f = (l.take n).filterMap f ++ (f a).toList := by
  rw [List.take_add_one, h, List.filterMap_append]
  cases e : f a <;> simp [e]
/-- a comprehension that keeps the state: each item gives an element, or none -/
theorem x_lcFM (f : V → Option V) (s : S F cs H) (hq : ∀ B, F B → SqB b K B p xs) (hl : xs.length < 10000000)
    (hs : ∀ D acc x H (Put : VK) (Skip : Hp → Prop), x ∈ xs → (∀ y H', f x = some y → S F ((D, .lst acc) :: cs) H' → Put y H') → (∀ H', f x = none → S F ((D, .lst acc) :: cs) H' → Skip H') → S F ((D, .lst acc) :: cs) H →
      g x (wipe σ vs) H fun σ2 H2 => wipe σ2 vs = wipe σ vs ∧ tt σ2 H2 fun b H3 => if b = true then te σ2 H3 Put else Skip H3)
    (hd : ∀ D H, S F ((D, .lst (xs.filterMap f)) :: cs) H → Q (.ref D) H) :
    ∃ a, V.ref p = .ref a ∧ (((∃ xs, SqL K H a xs) ∧ LcW (Itl K a) σ H Q g tt te vs) ∨ ((∃ xs, SqT K H a xs) ∧ LcW (Itt K a) σ H Q g tt te vs)) := by
  refine x_lcB (hq _ s.fact) (fun D i H => i ≤ xs.length ∧ S F ((D, .lst ((xs.take i).filterMap f)) :: cs) H) (fun D hD => ⟨Nat.zero_le _, s.alloc hD⟩) (fun D i H h => hq _ h.2.fact) ?_ ?_
  · rintro D i x H hx ⟨hi, s⟩
    have hlt : i < xs.length := (List.getElem?_eq_some_iff.mp hx).1
    have hlen : ((xs.take i).filterMap f).length < sizeLine := big_sz (Nat.lt_of_le_of_lt (Nat.le_trans (List.length_filterMap_le _ _) (by rw [List.length_take]; omega)) hl)
    refine hs D _ x H _ _ (mem_of_get hx) ?_ ?_ s
    · intro y H4 h1 h2
      refine ⟨_, h2.at 0 rfl, hlen, hlt, ?_⟩
      rw [filterMap_take f hx, h1]
      exact h2.set 0 rfl _
    · intro H3 h1 h2
      refine ⟨hlt, ?_⟩
      rw [filterMap_take f hx, h1]
      simpa using h2
  · rintro D H ⟨_, s⟩
    rw [List.take_length] at s
    exact hd D H s
/-- by the place -/
theorem x_lcFI (f : Nat → Option V) (s : S F cs H) (hq : ∀ B, F B → SqB b K B p xs) {n : Nat} (hn : xs.length = n) (hl : n < 10000000)
    (hs : ∀ D acc i x H (Put : VK) (Skip : Hp → Prop), xs[i]? = some x → (∀ y H', f i = some y → S F ((D, .lst acc) :: cs) H' → Put y H') → (∀ H', f i = none → S F ((D, .lst acc) :: cs) H' → Skip H') → S F ((D, .lst acc) :: cs) H →
      g x (wipe σ vs) H fun σ2 H2 => wipe σ2 vs = wipe σ vs ∧ tt σ2 H2 fun b H3 => if b = true then te σ2 H3 Put else Skip H3)
    (hd : ∀ D H, S F ((D, .lst ((List.range n).filterMap f)) :: cs) H → Q (.ref D) H) :
    ∃ a, V.ref p = .ref a ∧ (((∃ xs, SqL K H a xs) ∧ LcW (Itl K a) σ H Q g tt te vs) ∨ ((∃ xs, SqT K H a xs) ∧ LcW (Itt K a) σ H Q g tt te vs)) := by
  subst hn
  refine x_lcB (hq _ s.fact) (fun D i H => i ≤ xs.length ∧ S F ((D, .lst ((List.range i).filterMap f)) :: cs) H) (fun D hD => ⟨Nat.zero_le _, s.alloc hD⟩) (fun D i H h => hq _ h.2.fact) ?_ (fun D H h => hd D H h.2)
  rintro D i x H hx ⟨hi, s⟩
  have hlt : i < xs.length := (List.getElem?_eq_some_iff.mp hx).1
  have hlen : ((List.range i).filterMap f).length < sizeLine := big_sz (Nat.lt_of_le_of_lt (Nat.le_trans (List.length_filterMap_le _ _) (by rw [List.length_range]; omega)) hl)
  refine hs D _ i x H _ _ hx ?_ ?_ s
  · intro y H4 h1 h2
    refine ⟨_, h2.at 0 rfl, hlen, hlt, ?_⟩
    rw [List.range_succ, List.filterMap_append]
    simp only [List.filterMap_cons, h1, List.filterMap_nil]
    exact h2.set 0 rfl _
  · intro H3 h1 h2
    refine ⟨hlt, ?_⟩
    rw [List.range_succ, List.filterMap_append]
    simp only [List.filterMap_cons, h1, List.filterMap_nil, List.append_nil]
    exact h2
/-- the same over range(n) -/
theorem x_lcFR (f : Nat → Option V) {n : Nat} (hj : j = (n : Int)) (hn : n < 10000000) (s : S F cs H)
    (hs : ∀ D acc i H (Put : VK) (Skip : Hp → Prop), i < n → (∀ y H', f i = some y → S F ((D, .lst acc) :: cs) H' → Put y H') → (∀ H', f i = none → S F ((D, .lst acc) :: cs) H' → Skip H') → S F ((D, .lst acc) :: cs) H →
      g (.int (i : Nat)) (wipe σ vs) H fun σ2 H2 => wipe σ2 vs = wipe σ vs ∧ tt σ2 H2 fun b H3 => if b = true then te σ2 H3 Put else Skip H3)
    (hd : ∀ D H, S F ((D, .lst ((List.range n).filterMap f)) :: cs) H → Q (.ref D) H) :
    ∃ k : Int, [V.int j] = [.int k] ∧ -(2 ^ 62) ≤ k ∧ k < 2 ^ 62 ∧ LcW (Itr 0 k.toNat) σ H Q g tt te vs := by
  refine x_lcR1 hj (Nat.lt_of_lt_of_le hn (by decide)) (fun D i H => S F ((D, .lst ((List.range i).filterMap f)) :: cs) H) (fun D hD => s.alloc hD) ?_ (fun D H s => hd D H s)
  intro D i H hi s
  have hlen : ((List.range i).filterMap f).length < sizeLine := big_sz (Nat.lt_of_le_of_lt (Nat.le_trans (List.length_filterMap_le _ _) (by rw [List.length_range]; omega)) hn)
  refine hs D _ i H _ _ hi ?_ ?_ s
  · intro y H4 h1 h2
    refine ⟨_, h2.at 0 rfl, hlen, ?_⟩
    rw [List.range_succ, List.filterMap_append]
    simp only [List.filterMap_cons, h1, List.filterMap_nil]
    exact h2.set 0 rfl _
  · intro H3 h1 h2
    rw [List.range_succ, List.filterMap_append]
    simp only [List.filterMap_cons, h1, List.filterMap_nil, List.append_nil]
    exact h2
end
/-! ### what stands in the written part, by a look -/
mutual
def kd (K : PySem.W.Frag) : PyData → Value → Bool
  | .none, .none => true
  | .bool a, .bool b => a == b
  | .int i, .int j _ => decide (i = j)
  | .str x, .str y _ => decide (x = y)
  | .tuple ds, .ref a => match K.lookup a with
    | some ⟨.type "tuple", _, .seq its _, _⟩ => decide (its.size ≤ 1000) && kdAll K ds its.toList
    | _ => false
  | _, _ => false
def kdAll (K : PySem.W.Frag) : List PyData → List Value → Bool
  | [], [] => true
  | d :: ds, u :: us => kd K d u && kdAll K ds us
  | _, _ => false
end
mutual
theorem kd_ok {K : PySem.W.Frag} : ∀ (d : PyData) (u : Value), kd K d u = true → ∃ v, RelV v u ∧ ∀ H, Dp K H v d
  | .none, .none, _ => ⟨.non, rfl, fun _ => .non⟩
  | .bool a, .bool b, h => ⟨.bl b, rfl, by
    have e : a = b := by simpa [kd] using h
    subst e
    exact fun _ => .bl a⟩
  | .int i, .int j t, h => ⟨.int i, by
    have e : i = j := by simpa [kd] using h
    subst e
    exact ⟨t, rfl⟩, fun _ => .int i⟩
  | .str x, .str y t, h => ⟨.str x, by
    have e : x = y := by simpa [kd] using h
    subst e
    exact ⟨t, rfl⟩, fun _ => .str x⟩
  | .tuple ds, .ref a, h => by
    unfold kd at h
    split at h
    · rename_i dd its n sl hk
      obtain ⟨h1, h2⟩ := Bool.and_eq_true_iff.mp h
      obtain ⟨vs, rv, dv⟩ := kdAll_ok ds its.toList h2
      exact ⟨.ref a, rfl, fun H => .tup (.inr ⟨_, its, n, hk, rfl, rfl, Nat.le_trans (of_decide_eq_true h1) (by decide), rv⟩) (dv H)⟩
    · cases h
  | .none, .bool _, h | .none, .int _ _, h | .none, .str _ _, h | .none, .ref _, h => by simp [kd] at h
theorem kdAll_ok {K : PySem.W.Frag} : ∀ (ds : List PyData) (us : List Value), kdAll K ds us = true → ∃ vs, Vals vs us ∧ ∀ H, DpAll K H vs ds
  | [], [], _ => ⟨[], .nil, fun _ => .nil⟩
  | d :: ds, u :: us, h => by
    unfold kdAll at h
    obtain ⟨h1, h2⟩ := Bool.and_eq_true_iff.mp h
    obtain ⟨v, r, q⟩ := kd_ok d u h1
    obtain ⟨vs, rs, qs⟩ := kdAll_ok ds us h2
    exact ⟨v :: vs, .cons r rs, fun H => .cons (q H) (qs H)⟩
  | [], _ :: _, h => by simp [kdAll] at h
  | _ :: _, [], h => by simp [kdAll] at h
end
theorem kd_tup {K : PySem.W.Frag} {ds : List PyData} {a : Addr} (h : kd K (.tuple ds) (.ref a) = true) : ∃ xs, ∀ H, SqT K H a xs ∧ DpAll K H xs ds := by
  unfold kd at h
  split at h
  · rename_i dd its n sl hk
    obtain ⟨h1, h2⟩ := Bool.and_eq_true_iff.mp h
    obtain ⟨vs, rv, dv⟩ := kdAll_ok ds its.toList h2
    exact ⟨vs, fun H => ⟨.inr ⟨_, its, n, hk, rfl, rfl, Nat.le_trans (of_decide_eq_true h1) (by decide), rv⟩, dv H⟩⟩
  · cases h
instance {H0 : Hp} : Mono (fun B => Same H0 B) := ⟨fun _ _ e h => h.trans e⟩
/-- facts of the written part hold anywhere -/
theorem S.addK {F G : Hp → Prop} {cs : List (Addr × HO)} {H : Hp} (s : S F cs H) (h : ∀ H, G H) (m : Mono G := by infer_instance) : S (fun B => G B ∧ F B) cs H := by
  have := s.mono
  exact s.imp fun B f => ⟨h B, f⟩
theorem start_s (H : Hp) : S (fun B => Same H B) [] H := S.of (Same.refl H)
/-- two ints in a tuple -/
theorem dp_pair {K : PySem.W.Frag} {H : Hp} {v : V} {i j : Int} (h : Dp K H v (.tuple [.int i, .int j])) : ∃ a, v = .ref a ∧ SqT K H a [.int i, .int j] := by
  cases h with | tup h k => ?_
  cases k with | cons h1 k => ?_
  cases k with | cons h2 k => ?_
  cases k
  cases h1
  cases h2
  exact ⟨_, rfl, h⟩
theorem x_band {i j : Int} {H : Hp} {Q : VK} (q : Q (.int (Builtin.bitAnd i j)) H) : rBitAnd1 (.int i) (.int j) H Q := ⟨i, j, rfl, rfl, q⟩
theorem x_bor {i j : Int} {H : Hp} {Q : VK} (q : Q (.int (Builtin.bitOr i j)) H) : rBitOr1 (.int i) (.int j) H Q := ⟨i, j, rfl, rfl, q⟩
theorem x_bxor {i j : Int} {H : Hp} {Q : VK} (q : Q (.int (Builtin.bitXor i j)) H) : rBitXor1 (.int i) (.int j) H Q := ⟨i, j, rfl, rfl, q⟩
theorem x_shr {i j : Int} {H : Hp} {Q : VK} (h : 0 ≤ j) (q : Q (.int (i / 2 ^ j.toNat)) H) : rShr1 (.int i) (.int j) H Q := ⟨i, j, rfl, rfl, h, q⟩
theorem x_shl {i j : Int} {H : Hp} {Q : VK} (h : CShl i j) (q : Q (.int (i * 2 ^ j.toNat)) H) : rShl1 (.int i) (.int j) H Q := ⟨i, j, rfl, rfl, h, q⟩
theorem x_gtup {K : PySem.W.Frag} {H : Hp} {σ : L2.St} {n : Nat} {t : TGs} {a : Addr} {xs : List V} {R : L2.St → Hp → Prop} (h : SqT K H a xs) (hl : xs.length = n) (q : t xs σ H R) : gTup K n t (.ref a) σ H R := ⟨a, xs, rfl, h, hl, q⟩
theorem x_gcons {t : TG} {u : TGs} {v : V} {r : List V} {σ : L2.St} {H : Hp} {R : L2.St → Hp → Prop} (h : t v σ H fun σ' H' => u r σ' H' R) : gCons t u (v :: r) σ H R := ⟨v, r, rfl, h⟩
theorem x_gnil {σ : L2.St} {H : Hp} {R : L2.St → Hp → Prop} (h : R σ H) : gNil [] σ H R := ⟨rfl, h⟩
theorem x_m1 {r : V → List V → Hp → VK → Prop} {to te : TE} {σ : L2.St} {H : Hp} {Q : VK} (h : to σ H fun x H1 => (∃ a, x = .str a) ∧ te σ H1 fun y H2 => r x [y] H2 Q) : tM1 r to te σ H Q := h
theorem x_isS {z : Str} {A : Prop} (q : A) : (∃ a, V.str z = .str a) ∧ A := ⟨⟨z, rfl⟩, q⟩
theorem x_callN {n m : Nat} {sp : Sp} {gV : List V → List V → List V} {E : XK} {t tk : TA} {σ : L2.St} {H : Hp} {Q : VK} (h : t σ H fun vs H1 => tk σ H1 fun zs H2 => vs.length = n ∧ zs.length = m ∧ sp (gV vs zs) H2 Q E) : tCallN n m sp gV E t tk σ H Q := h
end My

namespace My
open PySem L2
theorem vals_drop : ∀ {vs : List V} {us : List Value} (i : Nat), Vals vs us → Vals (vs.drop i) (us.drop i)
  | _, _, 0, h => h
  | _, _, i + 1, .nil => .nil
  | _, _, i + 1, .cons _ t => vals_drop i t
theorem vals_take : ∀ {vs : List V} {us : List Value} (i : Nat), Vals vs us → Vals (vs.take i) (us.take i)
  | _, _, 0, _ => .nil
  | _, _, i + 1, .nil => .nil
  | _, _, i + 1, .cons r t => .cons r (vals_take i t)
theorem vals_pick {vs : List V} {us : List Value} (i : Nat) (h : Vals vs us) : Vals ((vs.drop i).take 1) ((us.drop i).take 1) := vals_take 1 (vals_drop i h)
end My

namespace My
open PySem PySem.Spec L2
/-- the end of a law whose defs may raise, the written part found by a Hook -/
theorem walk_mine {l : PySem.W.OpenLaw} {n k : Nat} {q : Program} {loose : List Str} {XP : (Str → Option Value) → Heap → Prop} {YP : World → Heap → Prop} {d : DefRec} {x : Str}
    (hn : l.most = some n) (hs : n ≤ sizeLine) (hdf : d.params.defaults = []) (room : Room k callerA)
    (got : ∀ (w : World) (mg : Str → Option Value) (fa : Addr) (h : Heap), YP w h → h.Ns mainGlobals mg → mg d.name = some (.ref fa) →
      ∃ (K : PySem.W.Frag) (fd : FuncData) (sp : Sp), K.In h ∧ (∀ (s : Shared) (u : Value), BindsTo s fd ⟨[u], []⟩ [(x, u)]) ∧
        (∀ (H : Hp) (a : Addr) (ns : List Int), ns.length ≤ n → SqL K H a (ns.map V.int) → sp [.ref a] H (fun v _ => v = .bl true) fun _ _ _ => False) ∧
        ∀ base : Heap, K.In base → base.Ns mainGlobals mg → FnOk l.prog w K mg base (L2.CX l.prog w) k fa fd [x] sp) :
    PySem.W.WalkO q loose XP YP l.row.toRowW d [] (fun f vs => PySem.call f vs) := by
  refine Att.attach_call hn hdf ?_
  intro w s₀ s₁ mg mb fa o pm cd doc a vs ns G Y ho hd hcd hmg hobj hints hlen hg
  obtain ⟨K, fd, sp, inn, binds, asked, ok⟩ := got w mg fa _ Y G.T.g hmg
  refine law_call inn G.T.g G.T.b G.T.builtins G.T.nolimit hg hobj hints (Nat.le_trans hlen hs) room ok binds ?_ ?_
  · intro H _ hS
    exact asked H a ns hlen hS
  · intro H e s' c
    obtain ⟨_, _, _, _, _, _, _, _, _, _, _, _, z⟩ := c
    exact z
end My

namespace My
open PySem PySem.Spec L2
def opV : Option Int → V
  | none => .non
  | some i => .int i
def LET : List Nat := ("abcdefghijklmnopqrstuvwxyz" : Str).cps.toList
def DIG : List Nat := ("0123456789" : Str).cps.toList
theorem dig_iff (c : Nat) : c ∈ DIG ↔ 48 ≤ c ∧ c ≤ 57 := by
  have e : DIG = [48, 49, 50, 51, 52, 53, 54, 55, 56, 57] := by decide +kernel
  rw [e]
  simp only [List.mem_cons, List.not_mem_nil, or_false]
  omega
theorem str1_eq {c d : Nat} : (V.str ⟨#[c]⟩ = V.str ⟨#[d]⟩) = (c = d) := by simp
theorem str_head {z : Str} {c : Nat} (h : atI z.cps.toList 0 = some c) : z.cps.toList.head? = some c := by
  have : z.cps.toList[0]? = some c := by
    unfold atI at h
    cases e : ixN z.cps.toList.length 0 with
    | none => rw [e] at h; cases h
    | some j =>
      rw [e] at h
      unfold ixN at e
      rw [if_pos (by decide)] at e
      split at e
      · cases e; exact h
      · cases e
  rw [List.head?_eq_getElem?]
  exact this
theorem at_zero {z : Str} {c : Nat} (h : z.cps.toList.head? = some c) : atI z.cps.toList 0 = some c := by
  rw [List.head?_eq_getElem?] at h
  exact atI_nat (j := 0) h
theorem cps_get {z : Str} {m c : Nat} (h : z.cps[m]? = some c) : z.cps.toList[m]? = some c := by
  rw [Array.getElem?_toList]; exact h
theorem x_inS {c : Nat} {z : Str} {K : PySem.W.Frag} {H : Hp} {Q : VK} (q : Q (.bl (decide (c ∈ z.cps.toList))) H) : rIn1 K (.str ⟨#[c]⟩) (.str z) H Q := .inl ⟨c, z, rfl, rfl, q⟩
theorem x_ninS {c : Nat} {z : Str} {K : PySem.W.Frag} {H : Hp} {Q : VK} (q : Q (.bl (!decide (c ∈ z.cps.toList))) H) : rNotIn1 K (.str ⟨#[c]⟩) (.str z) H Q := .inl ⟨c, z, rfl, rfl, q⟩
theorem str_len {z : Str} : z.length = z.cps.toList.length := by simp [Str.length]
end My

namespace My
open PySem PySem.Spec L2
theorem str_is {c d : Nat} {s : Str} (e : s = ⟨#[d]⟩) : (V.str ⟨#[c]⟩ = V.str s) ↔ c = d := by subst e; simp
theorem sz5 {n : Nat} (h : n ≤ 1000000) : n ≤ sizeLine := Nat.le_trans h (by decide)
theorem x_split {z b : Str} {F : Hp → Prop} {cs : List (Addr × HO)} {H : Hp} {Q : VK} (s : S F cs H) (hb : (b.length == 0) = false) (hz : z.length ≤ 100000) (k : ∀ p H', S F ((p, .lst ((Txt.split z b).map V.str)) :: cs) H' → Q (.ref p) H') : rSplit1 (.str z) [.str b] H Q :=
  ⟨z, b, rfl, rfl, hb, sz5 (by omega), fun p hp => k p _ (s.alloc hp)⟩
theorem S.fresh {F : Hp → Prop} {cs : List (Addr × HO)} {H H0 : Hp} {c : Addr × HO} (s : S F cs H) (h : c ∈ cs) (e : ∀ B, F B → Same H0 B) : H0 c.1 = none := by
  obtain ⟨B, _, f, fr⟩ := s.ex
  exact (e B f).free (fr c h)
theorem S.freezeL {F : Hp → Prop} {cs : List (Addr × HO)} {H : Hp} {p : Addr} {xs : List V} {K : PySem.W.Frag} (s : S F ((p, .lst xs) :: cs) H) : S (fun B => SqB true K B p xs ∧ F B) cs H := by
  have := s.mono
  exact s.freeze fun B f e => ⟨sq_l e, f⟩
theorem S.freezeT {F : Hp → Prop} {cs : List (Addr × HO)} {H : Hp} {p : Addr} {xs : List V} {K : PySem.W.Frag} (s : S F ((p, .tup xs) :: cs) H) : S (fun B => SqB false K B p xs ∧ F B) cs H := by
  have := s.mono
  exact s.freeze fun B f e => ⟨sq_t e, f⟩
end My

namespace My
open PySem PySem.Spec L2
theorem x_orJ {A B : Bool} {H : Hp} {Q : VK} {σ : L2.St} {tb : TE} (hb : ∀ R : VK, R (.bl B) H → tb σ H R) (q : Q (.bl (A || B)) H) : if A = true then Q (.bl true) H else tb σ H Q := by
  cases A
  · exact iteF (hb _ q)
  · exact iteT q
theorem x_andJ {A B : Bool} {H : Hp} {Q : VK} {σ : L2.St} {tb : TE} (hb : ∀ R : VK, R (.bl B) H → tb σ H R) (q : Q (.bl (A && B)) H) : if A = true then tb σ H Q else Q (.bl false) H := by
  cases A
  · exact iteF q
  · exact iteT (hb _ q)
end My

namespace My
open PySem PySem.Spec L2
section
variable {σ : L2.St} {H : Hp} {Q : VK} {K : PySem.W.Frag} {F : Hp → Prop} {cs : List (Addr × HO)} {p q : Addr} {xs ys : List V}
theorem mulok {z : Str} {n : Int} (hz : z.length ≤ 1000) (h0 : 0 ≤ n) (h1 : n ≤ 1000) : MulOk z n := by
  refine ⟨?_, fun h2 _ => ?_, fun h2 _ => ?_⟩
  · rw [Bool.or_eq_false_iff]
    exact ⟨decide_eq_false (by omega), decide_eq_false (by omega)⟩
  · have : (1000 : Int) ≤ (2 ^ 63 - 1) / n := by
      refine Int.le_ediv_of_mul_le (by omega) ?_
      omega
    omega
  · have h3 : z.length * n.toNat ≤ 1000 * 1000 := Nat.mul_le_mul hz (by omega)
    unfold PySem.Builtin.Str.tooLong
    rw [decide_eq_false]
    have : 1000 * 1000 ≤ sizeLine := by decide
    omega
theorem x_mulS {z : Str} {n : Int} (h : MulOk z n) (q : Q (.str (Txt.mul z n)) H) : rMul1 K (.str z) (.int n) H Q := .inr (.inr (.inr (.inl ⟨z, n, rfl, rfl, h, q⟩)))
theorem x_sl {r : V → Option Int → Option Int → Hp → VK → Prop} {te : TE} {tl th : TO} (h : te σ H fun x H1 => tl σ H1 fun l H2 => th σ H2 fun u H3 => r x l u H3 Q) : tSl r te tl th σ H Q := h
theorem x_np {R : Option Int → Hp → Prop} (q : R none H) : tNoPart σ H R := q
theorem x_pt {te : TE} {R : Option Int → Hp → Prop} (h : te σ H fun x H1 => ∃ i, x = .int i ∧ R (some i) H1) : tPart te σ H R := h
theorem x_exi {i : Int} {R : Int → Prop} (q : R i) : ∃ k, V.int i = .int k ∧ R k := ⟨i, rfl, q⟩
theorem x_slL {lo hi : Option Int} (h : SqL K H p xs) (s : S F cs H) (k : ∀ r H', S F ((r, .lst (cutV xs lo hi)) :: cs) H' → Q (.ref r) H') : rSlL K (.ref p) lo hi H Q := ⟨p, xs, rfl, h, fun r hr => k r _ (s.alloc hr)⟩
theorem x_listof (h : SqL K H p xs ∨ SqT K H p xs) (s : S F cs H) (k : ∀ r H', S F ((r, .lst xs) :: cs) H' → Q (.ref r) H') : rList1 K [.ref p] H Q := ⟨p, xs, rfl, h, fun r hr => k r _ (s.alloc hr)⟩
theorem x_tupof (h : SqL K H p xs) (s : S F cs H) (k : ∀ r H', S F ((r, .tup xs) :: cs) H' → Q (.ref r) H') : rTuple1 K [.ref p] H Q := ⟨p, xs, rfl, .inl ⟨h, fun r hr => k r _ (s.alloc hr)⟩⟩
theorem x_tupofT (h : SqT K H p xs) (q : Q (.ref p) H) : rTuple1 K [.ref p] H Q := ⟨p, xs, rfl, .inr ⟨h, q⟩⟩
theorem mem_cutV {v : V} {lo hi : Option Int} (h : v ∈ cutV xs lo hi) : v ∈ xs := List.mem_of_mem_drop (List.mem_of_mem_take h)
theorem forR_all {α : Type} {P : α → Prop} {l : List α} {i : Nat} {x : α} (h : ∀ v ∈ l, P v) (e : l[i]? = some x) : P x := h x (mem_of_get e)
end
end My
namespace My
open PySem PySem.Spec L2
theorem x_cut {t u : TS} {nx bk ct : L2.St → Hp → Prop} {rt : VK} {σ : L2.St} {H : Hp} (Mid : L2.St → Hp → Prop) (h1 : t ⟨Mid, rt, bk, ct⟩ σ H) (h2 : ∀ σ' H', Mid σ' H' → u ⟨nx, rt, bk, ct⟩ σ' H') : C8.tCut t u ⟨nx, rt, bk, ct⟩ σ H := ⟨Mid, h1, h2⟩
end My

namespace My
open PySem PySem.Spec L2 PyProof.Rows
/-! ### enumerate of a tuple -/
theorem meets_enum1 {v : Value} {o : Obj} {H : Heap → Prop} (B : Begins v o H) :
    Meets (Builtin.«enumerate.__new__» ⟨[.type "enumerate", v], []⟩) (fun _ R s => H s.heap ∧
      R (.ok (.ret (.ref (s.heap.push o).objs.size))) { s with heap := (s.heap.push o).push { cls := .type "enumerate", data := .fields #[.none, .bool false, .ref s.heap.objs.size, rawInt 0, .none, .none] } }) :=
  .of_wp fun prog w A R s h => by
    obtain ⟨hp, g, d, tk, os⟩ := s; obtain ⟨h1, h⟩ := h
    have hsub := sub_enumerate
    have q1 : ∀ {A' : Around} {E : Value → Shared → Prop} {Q : Value → Shared → Prop}, Q (.ref hp.objs.size) ⟨hp.push o, g, d, tk, os⟩ → wpAny (model prog w) A' (pyIter v) Q E ⟨hp, g, d, tk, os⟩ :=
      fun q => B.iter prog w _ _ ⟨hp, g, d, tk, os⟩ _ h1 q
    wp_walk using q1
    refine wpAny_stack_any fun st => wpAny_pure ?_
    split
    · rename_i c _ _ _ _ _
      cases (c == Value.type "enumerate")
      · wp_walk using q1
        exact ⟨_, rfl, h⟩
      · wp_walk using q1
        exact ⟨_, rfl, h⟩
    · wp_walk using q1
      exact ⟨_, rfl, h⟩
section
variable {prog : Program} {w : World} {A : Around} {E : Value → Shared → Prop} {s : Shared}
theorem call_enumT {l : Addr} {items : Array Value} {Q : Value → Shared → Prop} (hL : s.heap.IsTuple l items)
    (h : ∀ h', IsEnum h' (s.heap.objs.size + 1) s.heap.objs.size 0 .none → h'.IsTupleIter s.heap.objs.size l 0 → h'.objs.size = s.heap.objs.size + 2 →
      (∀ b o, s.heap.get? b = some o → h'.get? b = some o) → Q (.ref (s.heap.objs.size + 1)) { s with heap := h' }) :
    wpAny (model prog w) A (call (.type "enumerate") [.ref l]) Q E s := by
  refine callType_new F.called_enumerate (by decide) (F.typeCall_enumerate_1 _) (F.newCall_enumerate_1 _) (fun obj => F.args_object_init_2 obj _) F.entry_enumerate_new
    (meets_enum1 (begins_tuple l items)) ⟨hL, ?_⟩
  generalize ho : ({ cls := .type "tuple_iterator", data := .fields #[.ref l, .int 0 0] } : Obj) = o
  have hz : (s.heap.push o).objs.size = s.heap.objs.size + 1 := Heap.size_push ..
  show _ ∧ _
  rw [hz]
  have he : IsEnum ((s.heap.push o).push { cls := .type "enumerate", data := .fields #[.none, .bool false, .ref s.heap.objs.size, rawInt 0, .none, .none] }) (s.heap.objs.size + 1) s.heap.objs.size 0 .none := by
    have := Heap.get?_push_size (s.heap.push o) (o := { cls := .type "enumerate", data := .fields #[.none, .bool false, .ref s.heap.objs.size, rawInt 0, .none, .none] }) rfl
    rw [hz] at this; exact this
  subst ho
  exact ⟨⟨_, he, rfl⟩, h _ he ⟨_, Heap.get?_push_of_some _ (Heap.get?_push_size _ rfl), rfl, rfl⟩ (by rw [Heap.size_push, hz]) fun b o x => Heap.get?_push_of_some _ (Heap.get?_push_of_some _ x)⟩
end
/-- the tuple at a, each item in a new pair -/
def IteT (K : PySem.W.Frag) (a : Addr) : It :=
  ⟨fun i H => ∃ (xs : List V) (x : V), SqT K H a xs ∧ xs[i]? = some x, fun i H v H' => ∃ T x, v = .ref T ∧ H T = none ∧ H' = upd H T (.tup [.int (i : Nat), x]) ∧ ∀ xs, SqT K H a xs → xs[i]? = some x, fun i H => ∃ xs : List V, SqT K H a xs ∧ xs.length ≤ i⟩
theorem turn_enumT {P : Program} {w : World} {K : PySem.W.Frag} {elts : List Expr} {kk : Nat} {tpos : Pos} (a e it : Addr) :
    Turn P w K (.Tuple elts kk tpos) (IteT K a) [e, it] e (fun i h => (∃ old, IsEnum h e it ((i : Nat) : Int) old) ∧ h.IsTupleIter it a i ∧ e ≠ it) where
  mem := by simp
  obj := fun i h st b hb => by
    obtain ⟨⟨old, he⟩, ⟨o, ho, hc, hd⟩, _⟩ := st
    have e' : b = e ∨ b = it := by simpa using hb
    rcases e' with z | z
    · rw [z]; exact ⟨_, he, fun v q => nomatch q⟩
    · rw [z]; exact ⟨o, ho, fun v q => by rw [hd] at q; cases q⟩
  keep := fun i h h' st k => let ⟨⟨old, he⟩, hi, hne⟩ := st; ⟨⟨old, k e (by simp) _ he⟩, hi.at fun o q => k it (by simp) o q, hne⟩
  item := by
    intro X hP hw hK hc i pins s σ H E I hf st hg
    subst hP hw hK
    obtain ⟨⟨old, he⟩, hit, hne⟩ := st
    obtain ⟨xs, x, hq, hx⟩ := hg
    obtain ⟨its, rv, p, hz⟩ := I.tuple hq
    obtain ⟨u, hu, ru⟩ := rv.get hx
    have hel : e < s.heap.objs.size := Heap.lt_size he
    have hil : it < s.heap.objs.size := by obtain ⟨_, q, _⟩ := hit; exact Heap.lt_size q
    have p' : s.heap.IsTuple a its.toArray := p
    have hea : e ≠ a := by
      intro z
      obtain ⟨o, ho, hcl, _⟩ := id p'
      rw [← z, he] at ho
      cases ho
      exact absurd hcl (by simp)
    have hia : a ≠ it := by
      intro z
      obtain ⟨o, ho, hcl, _⟩ := id p'
      obtain ⟨o2, ho2, hcl2, _⟩ := id hit
      rw [z, ho2] at ho
      cases ho
      rw [hcl2] at hcl
      exact absurd hcl (by simp)
    have hlt : i < its.toArray.size := by
      have := (List.getElem?_eq_some_iff.mp hu).1
      simpa using this
    refine wpAny_pyNext_enum_itemD (Draws.tuple (A := X.A.in1) (show X.A.in1.handled = none from I.ok.hd hc) it a hia its.toArray) he ⟨hit, p'⟩ hlt hne (by simp [hne, hea]) fun x2 h' tk hP2 ho hst hT hsz hk => ?_
    have ex : x2 = u := by
      have : its.toArray[i]? = some u := by simpa using hu
      rw [this] at hP2
      exact (Option.some.inj hP2).symm
    subst ex
    obtain ⟨hit', _⟩ := hst
    refine ⟨_, rfl, wpAny_letOwnedTupleGo_enum (s := { s with heap := h', toks := tk + 1 }) ho fun h'' he' sb => ?_⟩
    have hT2 : h''.get? s.heap.objs.size = some { cls := .type "tuple", data := .seq #[.int i tk, x2] } := (sb.2 _ (Nat.ne_of_gt hel)).trans hT
    have new : ObjOk X.prog X.w (upd H s.heap.objs.size (.tup [.int (i : Nat), x])) h'' s.heap.objs.size (.tup [.int (i : Nat), x]) :=
      ⟨by show 2 ≤ sizeLine; decide, [.int i tk, x2], .cons ⟨_, rfl⟩ (.cons ru .nil), ⟨_, hT2, rfl, _, rfl⟩⟩
    have I1 : Inv X pins σ (upd H s.heap.objs.size (.tup [.int (i : Nat), x])) { s with heap := h'', toks := tk + 1 } :=
      I.turnedNew (t' := tk + 1) (ch := [e, it]) (fun b ob hb q => (sb.2 b (fun z => hb (by simp [z]))).trans (hk b ob (fun z => hb (by simp [z])) (fun z => hb (by simp [z])) q)) hf (Nat.le_refl _) new
    refine ⟨.ref s.heap.objs.size, _, I1, rfl, ⟨_, x, rfl, I.hok.fresh (Nat.le_refl _), rfl, fun ys hy => by rw [I.tuple_inj hy hq]; exact hx⟩, ⟨⟨x2, ?_⟩, hit'.at fun o q => (sb.2 it (Ne.symm hne)).trans q, hne⟩, fun b hb => ?_⟩
    · have e1 : ((i + 1 : Nat) : Int) = (i : Int) + 1 := by omega
      rw [e1]; exact he'
    · have hb' : b < s.heap.objs.size := by
        have e' : b = e ∨ b = it := by simpa using hb
        rcases e' with z | z
        · rw [z]; exact hel
        · rw [z]; exact hil
      rw [upd_ne (Nat.ne_of_lt hb')]
      exact (hf b hb).1
  done := by
    intro X hP hw hK hc i pins s σ H E I hf st hg
    subst hP hw hK
    obtain ⟨⟨old, he⟩, hit, hne⟩ := st
    obtain ⟨xs, hq, hx⟩ := hg
    obtain ⟨its, rv, p, hz⟩ := I.tuple hq
    obtain ⟨f0, f1, f2, f3, f4, f5⟩ := hf it (by simp)
    have hl := rv.length
    have p' : s.heap.IsTuple a its.toArray := p
    have hT : s.TypeIs (.ref e) "enumerate" := ⟨_, he, rfl⟩
    unfold pyNext
    refine wpAny_bind (wpAny_attempt (wpAny_callSpecial?_slot (name := Str.ofString "__next__") hT F.slot_enumerate_next
      (wpAny_call_entry F.slot_enumerate_next hT F.entry_enumerate_next ?_ (F.args_enumerate_next_1 _))))
    show wpAny _ _ (field (.ref e) 2 >>= _) _ _ _
    refine wpAny_bind (wpAny_field he rfl (x := .ref it) rfl ?_)
    refine wpAny_bind (wpAny_nextOf_tuple_end (I.ok.hd hc) hit p' (by simp; omega) fun h' x he' hx' => ?_)
    obtain ⟨o, ho, hc'⟩ := hx'
    refine wpAny_bind (wpAny_isInstance (T := "StopIteration") (b := true) ⟨o, ho, hc'⟩ isSubtype_stop ?_)
    exact wpAny_pure ⟨rfl, I.turned (t' := s.toks) (fun b o hb q => he' b o hb q) f0 f1 f3 f4 f5⟩
  self := fun A i s Q E st h => let ⟨⟨_, he⟩, _⟩ := st; wpAny_pyIter_enum he h
/-- enumerate of a list or of a tuple -/
def iEnum1 (K : PySem.W.Frag) (ta : TA) : TI := fun σ H R => ta σ H fun vs H1 => ∃ a, vs = [.ref a] ∧ (((∃ xs, SqL K H1 a xs) ∧ R (Ite K a) H1) ∨ ((∃ xs, SqT K H1 a xs) ∧ R (IteT K a) H1))
theorem pi_enum1 {X : Cx} {e : Expr} {ta : TA} {p pos tpos : Pos} {elts : List Expr} {kk : Nat} (hg : Gl X "enumerate") (hm : X.mg "enumerate" = none) (ha : PA X [e] ta) (hs : starEach [e] X.env = [(false, eval e X.env)] := by rfl) :
    PI X (.Tuple elts kk tpos) (.Call (.Name "enumerate" p) [e] [] pos) (iEnum1 X.K ta) := by
  refine ⟨fun pins s σ H R I h => ?_⟩
  refine PyProof.Rows.Call_ (ld_blt I hg hm boot_enumerate (PyProof.Rows.callWith_type1 (thn (ha.run pos pins s σ H _ I h) fun us s1 ⟨vs, H1, I1, r1, q1⟩ => ?_) hs rfl))
  obtain ⟨a, ex, q1⟩ := q1
  subst ex
  cases r1 with
  | cons r rr =>
    cases rr
    cases r
    have fresh : ∀ b, b ∈ [s1.heap.objs.size + 1, s1.heap.objs.size] → FpOk X pins H1 b := fun b hb => by
      have e' : b = s1.heap.objs.size + 1 ∨ b = s1.heap.objs.size := by simpa using hb
      have hle : s1.heap.objs.size ≤ b := by
        rcases e' with z | z
        · rw [z]; exact Nat.le_add_right _ _
        · rw [z]; exact Nat.le_refl _
      exact I1.fpOk hle (I1.hok.fresh hle)
    rcases q1 with ⟨⟨xs, hq⟩, q⟩ | ⟨⟨xs, hq⟩, q⟩
    · obtain ⟨its, rv, p', hz⟩ := I1.list hq
      refine call_enumerate_list p'.isList fun h' he hit hsz hk => wpAny_pyIter_enum he ?_
      have I2 : Inv X pins σ H1 { s1 with heap := h' } := I1.kept (t' := s1.toks) hk
      exact ⟨s1.heap.objs.size + 1, [s1.heap.objs.size + 1, s1.heap.objs.size], _, _, H1, rfl, I2, turn_enum a (s1.heap.objs.size + 1) s1.heap.objs.size, ⟨⟨.none, he⟩, hit, Nat.succ_ne_self _⟩, fresh, q⟩
    · obtain ⟨its, rv, p', hz⟩ := I1.tuple hq
      refine call_enumT (show s1.heap.IsTuple a its.toArray from p') fun h' he hit hsz hk => wpAny_pyIter_enum he ?_
      have I2 : Inv X pins σ H1 { s1 with heap := h' } := I1.kept (t' := s1.toks) hk
      exact ⟨s1.heap.objs.size + 1, [s1.heap.objs.size + 1, s1.heap.objs.size], _, _, H1, rfl, I2, turn_enumT a (s1.heap.objs.size + 1) s1.heap.objs.size, ⟨⟨.none, he⟩, hit, Nat.succ_ne_self _⟩, fresh, q⟩
section
variable {σ : L2.St} {H : Hp} {Q : VK} {K : PySem.W.Frag} {F : Hp → Prop} {cs : List (Addr × HO)} {p q : Addr} {x y v : V} {xs ys : List V} {i j : Int} {b : Bool}
variable {nx : L2.St → Hp → Prop} {rt : VK} {g : TG} {tb : TS} {tt : TT} {te : TE} {vs : List Nat}
def IteB : Bool → PySem.W.Frag → Addr → It
  | true, K, p => Ite K p
  | false, K, p => IteT K p
theorem walk_enumB : Walk (IteB b K p) xs.length (fun H => SqB b K H p xs) (YPair (fun i => some (.int (i : Nat))) (fun i => xs[i]?)) := by
  cases b
  · refine ⟨fun i _ hi q => ⟨xs, xs[i], q, by simp [hi]⟩, fun _ q => ⟨xs, q, Nat.le_refl _⟩, fun i H v H' _ q y => ?_⟩
    obtain ⟨T, x, h1, h2, h3, h4⟩ := y
    exact ⟨T, .int (i : Nat), x, h1, h2, h3, rfl, h4 xs q⟩
  · exact walk_enum
theorem x_iEn {R : It → Hp → Prop} {ta : TA} (h : ta σ H fun vs H1 => ∃ a, vs = [.ref a] ∧ (((∃ xs, SqL K H1 a xs) ∧ R (Ite K a) H1) ∨ ((∃ xs, SqT K H1 a xs) ∧ R (IteT K a) H1))) : iEnum1 K ta σ H R := h
/-- for i, x in enumerate(a list or a tuple): the pair is done with at once -/
theorem x_forE {gs : TGs} (hq : SqB b K H p xs) (Pv : Nat → L2.St → Hp → Prop) (h0 : Pv 0 σ H) (hG : ∀ i σ H, Pv i σ H → SqB b K H p xs)
    (hs : ∀ i x σ H T H', xs[i]? = some x → Pv i σ H → H T = none → H' = upd H T (.tup [.int (i : Nat), x]) → gs [.int (i : Nat), x] σ H' fun σ2 H2 => tb ⟨Pv (i + 1), rt, nx, Pv (i + 1)⟩ σ2 H2) (hd : ∀ σ H, Pv xs.length σ H → nx σ H) :
    ∃ a, [V.ref p] = [.ref a] ∧ (((∃ xs, SqL K H a xs) ∧ ForW (Ite K a) σ H nx rt (gTup K 2 gs) tb) ∨ ((∃ xs, SqT K H a xs) ∧ ForW (IteT K a) σ H nx rt (gTup K 2 gs) tb)) := by
  have key : ForW (IteB b K p) σ H nx rt (gTup K 2 gs) tb := forW_it walk_enumB Pv h0 (fun i σ H _ h => hG i σ H h) (fun i x σ H H' hi hp y => by
    obtain ⟨T, x1, x2, rfl, h1, h2, h3, h4⟩ := y
    cases h3
    exact ⟨T, [.int (i : Nat), x2], rfl, sq_t (by rw [h2]; exact upd_same), rfl, hs i x2 σ H T H' h4 hp h1 h2⟩) hd
  cases b
  · exact ⟨p, rfl, .inr ⟨⟨xs, hq⟩, key⟩⟩
  · exact ⟨p, rfl, .inl ⟨⟨xs, hq⟩, key⟩⟩
end
/-! ### all and any of a list of truths -/
section
variable {X : Cx}
def rAll1 (K : PySem.W.Frag) : List V → Hp → VK → Prop := rAll K
def rAny1 (K : PySem.W.Frag) : List V → Hp → VK → Prop := rAny K
theorem x_all {K : PySem.W.Frag} {H : Hp} {Q : VK} {p : Addr} {bs : List Bool} (h : SqL K H p (bs.map V.bl)) (q : Q (.bl (bs.all id)) H) : rAll1 K [.ref p] H Q := ⟨p, bs, rfl, h, q⟩
theorem x_any {K : PySem.W.Frag} {H : Hp} {Q : VK} {p : Addr} {bs : List Bool} (h : SqL K H p (bs.map V.bl)) (q : Q (.bl (bs.any id)) H) : rAny1 K [.ref p] H Q := ⟨p, bs, rfl, h, q⟩
end
end My

namespace My
open PySem PySem.Spec L2 PyProof.Rows NdefX
/-! ### an own error whose __init__ says super().__init__(text); self.f = v -/
structure ErrD where
  cls : Str
  qual : Str
  params : Arguments
  body : List Stmt
  scope : Scope
  fld : Str
def iA (K : PySem.W.Frag) (x : Str) : Addr := He.ma K (He.ga K x) "__init__"
abbrev ErrV : Type := Option (Str × Str × Arguments × FuncBody × Scope × Addr × Addr)
def errW (K : PySem.W.Frag) (x : Str) : ErrV := match K.lookup (iA K x) with
  | some ⟨_, _, .func fd, _⟩ => some (fd.name, fd.qualname, fd.params, fd.body, fd.scope, fd.globals, fd.builtins)
  | _ => none
def ErrD.val (d : ErrD) : ErrV := some ("__init__", d.qual, d.params, .stmts d.body, d.scope, mainGlobals, builtinsNs)
def cellB (K : PySem.W.Frag) (c C : Addr) : Bool := match K.lookup c with
  | some ⟨_, _, .cell (some (.ref D)), _⟩ => decide (D = C)
  | _ => false
def fileB (K : PySem.W.Frag) (c : Addr) (file : Str) : Bool := match K.lookup c with
  | some ⟨_, _, .fields vs, _⟩ => (match (vs[2]? : Option Value) with
    | some (Value.str z _) => decide (z = file)
    | _ => false)
  | _ => false
def fnB (K : PySem.W.Frag) (d : ErrD) (file : Str) : Bool := match K.lookup (iA K d.cls) with
  | some ⟨_, _, .func fd, _⟩ => (match fd.defaults, fd.kwdefaults, fd.annotations, fd.closure, fd.code with
    | .none, .none, none, [(y, cc)], .ref c => decide (y = "__class__") && (cellB K cc (He.ga K d.cls) && (PySem.W.codeIn K (.ref c) d.qual && fileB K c file))
    | _, _, _, _, _ => false)
  | _ => false
def clsB (K : PySem.W.Frag) (C : Addr) : Bool := match K.lookup C with
  | some ⟨.type t, _, .cls cd, sl⟩ => (match cd.mro, sl.toList with
    | .ref C' :: bm, [_, _, _, _, some (.builtin n), _] => decide (t = "type") && (decide (C' = C) && (decide (n = "ValueError.__new__") && (!cd.hasDel && (cd.hasDict && (PySem.HandSPX.refsVE bm && decide (PySem.W.alongIn K "__init__" bm = some (some (.builtin "ValueError.__init__"))))))))
    | _, _ => false)
  | _ => false
def errB (K : PySem.W.Frag) (d : ErrD) (file : Str) : Bool :=
  fnB K d file && (clsB K (He.ga K d.cls) && (decide (PySem.W.findIn K (.ref (He.ga K d.cls)) "__setattr__" = some (some (.builtin "object.__setattr__"))) && (decide (PySem.W.subIn K (.ref (He.ga K d.cls)) (.type "BaseException") = some true) &&
  (decide (PySem.W.typeIn K (.ref (He.ga K d.cls)) = some (.type "type")) && (PySem.W.keepIn K (.ref (He.ga K d.cls)) && (decide (PySem.W.findIn K (.ref (He.ga K d.cls)) d.fld = some none) &&
  (decide (PySem.W.findIn K (.ref (He.ga K d.cls)) "__init__" = some (some (.ref (iA K d.cls)))) && (decide (PySem.W.typeIn K (.ref (iA K d.cls)) = some (.type "function")) && (decide (PySem.W.subIn K (.ref (He.ga K d.cls)) (.type "ValueError") = some true) &&
  decide (PySem.W.mroIn K (He.ga K d.cls) (.ref (He.ga K d.cls)) = some true))))))))))
structure ErrK (K : PySem.W.Frag) (d : ErrD) (file : Str) : Prop where
  fn : ∃ oc od osl doc pm cd ct cc, K.lookup (iA K d.cls) = some ⟨oc, od, .func (PySem.W.fnX "__init__" d.qual d.params d.body d.scope [("__class__", cc)] .none .none doc pm none (.ref cd) ct), osl⟩ ∧
    PySem.W.codeIn K (.ref cd) d.qual = true ∧ (∃ a b csl, K.lookup cc = some ⟨a, b, .cell (some (.ref (He.ga K d.cls))), csl⟩) ∧ ∃ a b vs tf csl, K.lookup cd = some ⟨a, b, .fields vs, csl⟩ ∧ vs[2]? = some (.str file tf)
  ox : OexC K (He.ga K d.cls)
  sup : ∃ cdd bm, PySem.W.clsIn K (He.ga K d.cls) = some cdd ∧ cdd.mro = .ref (He.ga K d.cls) :: bm ∧ PySem.W.alongIn K "__init__" bm = some (some (.builtin "ValueError.__init__"))
  noat : PySem.W.findIn K (.ref (He.ga K d.cls)) d.fld = some none
  init : PySem.W.findIn K (.ref (He.ga K d.cls)) "__init__" = some (some (.ref (iA K d.cls)))
  ty : PySem.W.typeIn K (.ref (iA K d.cls)) = some (.type "function")
  ve : PySem.W.subIn K (.ref (He.ga K d.cls)) (.type "ValueError") = some true
  own : PySem.W.mroIn K (He.ga K d.cls) (.ref (He.ga K d.cls)) = some true
theorem cellB_ok {K : PySem.W.Frag} {c C : Addr} (h : cellB K c C = true) : ∃ a b csl, K.lookup c = some ⟨a, b, .cell (some (.ref C)), csl⟩ := by
  unfold cellB at h
  split at h
  · rename_i a b D csl q
    exact ⟨a, b, csl, by rw [q, of_decide_eq_true h]⟩
  · cases h
theorem fileB_ok {K : PySem.W.Frag} {c : Addr} {file : Str} (h : fileB K c file = true) : ∃ a b vs tf csl, K.lookup c = some ⟨a, b, .fields vs, csl⟩ ∧ vs[2]? = some (.str file tf) := by
  unfold fileB at h
  split at h
  · rename_i a b vs csl q
    split at h
    · rename_i z tf q2
      have e := of_decide_eq_true h
      exact ⟨a, b, vs, tf, csl, q, by rw [q2, e]⟩
    · cases h
  · cases h
theorem errK_of {K : PySem.W.Frag} {d : ErrD} {file : Str} (e : errW K d.cls = d.val) (h : errB K d file = true) : ErrK K d file := by
  unfold errB at h
  obtain ⟨h1, h⟩ := He.ba h
  obtain ⟨h2, h⟩ := He.ba h
  obtain ⟨h3, h⟩ := He.ba h
  obtain ⟨h4, h⟩ := He.ba h
  obtain ⟨h5, h⟩ := He.ba h
  obtain ⟨h6, h⟩ := He.ba h
  obtain ⟨h7, h⟩ := He.ba h
  obtain ⟨h8, h⟩ := He.ba h
  obtain ⟨h9, h⟩ := He.ba h
  obtain ⟨h10, h11⟩ := He.ba h
  have cl : (∃ nm q N bs bm sn sub ab col dd k0 k1 k2 k3 k5, K.lookup (He.ga K d.cls) = some (excClassObj nm q (He.ga K d.cls) N bs bm true sn sub ab col dd k0 k1 k2 k3 k5 "ValueError.__new__") ∧ PySem.HandSPX.refsVE bm = true) ∧
      ∃ cdd bm, PySem.W.clsIn K (He.ga K d.cls) = some cdd ∧ cdd.mro = .ref (He.ga K d.cls) :: bm ∧ PySem.W.alongIn K "__init__" bm = some (some (.builtin "ValueError.__init__")) := by
    generalize He.ga K d.cls = C at h2 ⊢
    unfold clsB at h2
    split at h2
    · rename_i t dd cd sl q
      split at h2
      · rename_i C' bm k0 k1 k2 k3 n k5 hm hs
        obtain ⟨g1, h2⟩ := He.ba h2
        obtain ⟨g2, h2⟩ := He.ba h2
        obtain ⟨g3, h2⟩ := He.ba h2
        obtain ⟨g4, h2⟩ := He.ba h2
        obtain ⟨g5, h2⟩ := He.ba h2
        obtain ⟨g6, g7⟩ := He.ba h2
        obtain rfl : t = "type" := of_decide_eq_true g1
        obtain rfl : C' = C := of_decide_eq_true g2
        obtain rfl : n = "ValueError.__new__" := of_decide_eq_true g3
        obtain ⟨nm, bs, mro, ns, qn, hd, sn, sb, ab, col, del⟩ := cd
        dsimp only at hm g4 g5
        subst hm
        obtain rfl : del = false := by simpa using g4
        subst g5
        obtain rfl : sl = #[k0, k1, k2, k3, some (.builtin "ValueError.__new__"), k5] := by
          apply Array.ext'
          rw [hs]
        refine ⟨⟨nm, qn, ns, bs, bm, sn, sb, ab, col, dd, k0, k1, k2, k3, k5, q, g6⟩, ⟨nm, bs, .ref C' :: bm, ns, qn, true, sn, sb, ab, col, false⟩, bm, ?_, rfl, of_decide_eq_true g7⟩
        unfold PySem.W.clsIn
        rw [q]
      · cases h2
    · cases h2
  refine ⟨?_, ⟨cl.1, of_decide_eq_true h3, of_decide_eq_true h4, of_decide_eq_true h5, h6⟩, cl.2, of_decide_eq_true h7, of_decide_eq_true h8, of_decide_eq_true h9, of_decide_eq_true h10, of_decide_eq_true h11⟩
  unfold fnB at h1
  unfold errW at e
  split at h1
  · rename_i oc od fd osl q
    rw [q] at e
    obtain ⟨n1, n2, n3, n4, n5, n6, n7, n8, n9, n10, n11, n12, n13, n14, n15⟩ := fd
    have e2 : (some (n1, n2, n3, n4, n5, n6, n15) : ErrV) = some (("__init__" : Str), d.qual, d.params, .stmts d.body, d.scope, mainGlobals, builtinsNs) := e
    simp only [Option.some.injEq, Prod.mk.injEq] at e2
    obtain ⟨g1, g2, g3, g4, g5, g6, g7⟩ := e2
    subst g1 g2 g3 g4 g5 g6 g7
    split at h1
    · rename_i y cc c w1 w2 w3 w4 w5
      dsimp only at w1 w2 w3 w4 w5
      subst w1 w2 w3 w4 w5
      obtain ⟨f1, h1⟩ := He.ba h1
      obtain ⟨f2, h1⟩ := He.ba h1
      obtain ⟨f3, f4⟩ := He.ba h1
      obtain rfl : y = "__class__" := of_decide_eq_true f1
      exact ⟨oc, od, osl, _, _, _, _, _, q, f3, cellB_ok f2, fileB_ok f4⟩
    · cases h1
  · cases h1
end My
namespace My
open PySem PySem.Spec L2 PyProof.Rows NdefX
section
variable {X : Cx} {pins : List (Addr × Obj)} {σ : L2.St} {H : Hp} {s : Shared} {a C u : Addr} {E : Value → Shared → Prop} {A : Around}
/-- the bound __init__ called -/
theorem mw_ok {us : List Value} {Q : Value → Shared → Prop} (T : OexC X.K C) (I : Inv X pins σ H s) (e : H a = some (exo a C none)) (hu : s.heap.get? u = some (PySem.W.kxs_mw "ValueError.__init__" a)) (hl : us.length ≤ sizeLine) (h : ∀ s', Inv X pins σ H s' → Q .none s') :
    wpAny (model X.prog X.w) A (call (.ref u) us) Q E s := by
  obtain ⟨nm, q, N, bs, bm, sn, sub, ab, col, dd, k0, k1, k2, k3, k5, hC, hbm⟩ := T.cls
  obtain ⟨t1, ho⟩ := exo_at I.hok e
  have hC' := I.kIn _ _ hC
  obtain ⟨hp, g, d, t, os⟩ := s
  refine wpAny_call (codeAny_of_tree ?_)
  show wpAny _ A.in1 (callAny (.ref u) ⟨us, []⟩) _ _ _
  simp only [callAny]
  refine wpAny_bind (wpAny_load hu ?_)
  simp only [PySem.W.kxs_mw, show (Value.type "method-wrapper" == Value.type "method" || Value.type "method-wrapper" == Value.type "builtin_function_or_method" || Value.type "method-wrapper" == Value.type "method-wrapper") = true by decide, if_true]
  refine PySem.W.KFB.if_so (by decide) ?_
  refine wpAny_bind (PySem.W.check_bound_init F.excBase_ValueError.toExcCallFacts hC' ho rfl ?_)
  refine wpAny_bind (wpAny_pure (wpAny_pure ?_))
  refine ⟨plainId_quiet F.excBase_ValueError.init.plain _, codeAny_builtin F.excBase_ValueError.initEntry ?_⟩
  refine PySem.W.exc_init_tree (cls := .ref C) (t0 := t1) (dv := none) (c2 := .none) (c3 := .none) (b4 := .bool false) ho hl fun h' k hx _ => ?_
  have J := I.write (t' := t) (x := a) (e := a) (o := exo a C none) (by rw [e]; exact True.intro) (.inl rfl) k ⟨_, hx⟩ (exo_ok hx)
  have eu : upd H a (exo a C none) = H := by
    funext b
    by_cases hb : b = a
    · rw [hb, upd_same, e]
    · rw [upd_ne hb]
  rw [eu] at J
  exact h _ J
abbrev supCall (p0 p1 p2 p3 p6 : Pos) (text : Str) (kk : Nat) : Expr := .Call (.Attribute (.Call (.Name "super" p0) [] [] p1) "__init__" p2) [.Constant (.str text) kk p6] [] p3
/-- the call is an ordinary one (its places in the text say so) -/
def SupEv (p0 p1 p2 p3 p6 : Pos) (text : Str) (kk : Nat) (pl : Sem Bool) (env : Env) : Prop := eval (supCall p0 p1 p2 p3 p6 text kk) env = (do
      let ov ← attributeBase (.Call (.Name "super" p0) [] [] p1) "__init__" env (eval (.Call (.Name "super" p0) [] [] p1) env)
      standAt p2.atName
      let (f, first) ← holding [ov] (getMethod ov "__init__" pl)
      callWith p3 f first (backTo p3 (starEach [.Constant (.str text) kk p6] env)) [])
theorem super_ok {d : ErrD} {file text qual : Str} {scope : Scope} {L cd cc : Addr} {oc od osl} {fd : FuncData} {ar : Arg} {body : List Stmt} {cvs : Array Value} {tf : Tok} {c1 c2 c3 e1 e2 e3} {p0 p1 p2 p3 p4 p6 : Pos} {kk : Nat} {pl : Sem Bool}
    (T : ErrK X.K d file) (hop : PySem.W.nsIn X.K cStatics "thirdparty.any" = some none) (hX : X.env = PySem.W.envX qual scope L (iA X.K d.cls) (.ref cd) [("__class__", cc)])
    (hfn : X.K.lookup (iA X.K d.cls) = some ⟨oc, od, .func fd, osl⟩) (hp : (fd.params.posonlyargs ++ fd.params.args).head? = some ar) (har : ar.arg = "self")
    (hcell : X.K.lookup cc = some ⟨c1, c2, .cell (some (.ref (He.ga X.K d.cls))), c3⟩) (hcd : X.K.lookup cd = some ⟨e1, e2, .fields cvs, e3⟩) (hvs : cvs[2]? = some (.str file tf))
    (hfile : (X.prog.main.file == file) = true) (htop : (X.prog.main.scope.names.lookup ("super" : Str)).isSome = false) (hsup : X.mg "super" = none)
    (hks : scope.names.lookup ("super" : Str) = some .globalImplicit) (hkc : scope.names.lookup ("__class__" : Str) = some .free) (hka : scope.names.lookup ("self" : Str) = some .local)
    (hev : SupEv p0 p1 p2 p3 p6 text kk pl X.env) (I : Inv X [] σ H s) (ea : H a = some (exo a (He.ga X.K d.cls) none)) (hN : X.N[0]? = some ("self" : Str)) (hs : σ[0]? = some (some (.ref a))) :
    PySem.wpAt (model X.prog X.w) X.A (.func body X.env) (exec (.Expr (supCall p0 p1 p2 p3 p6 text kk) p4) X.env) (fun fl s' => fl = .next ∧ Inv X [] σ H s') X.xe s := by
  have hk : X.env.scope.kind = .function := I.ok.kind
  have hgl : X.env.globals = mainGlobals := I.ok.glob
  have hbl : X.env.builtins = builtinsNs := I.ok.blt
  obtain ⟨cdd, bm, hcl, hmro, hal⟩ := T.sup
  obtain ⟨oD, hD1, hD2⟩ : ∃ oD, s.heap.get? (He.ga X.K d.cls) = some oD ∧ oD.data = .cls cdd := by
    unfold PySem.W.clsIn at hcl
    split at hcl
    · rename_i c dd cd' sl ho
      cases hcl
      exact ⟨_, I.kIn _ _ ho, rfl⟩
    · cases hcl
  obtain ⟨t1, ho⟩ := exo_at I.hok ea
  have hne : a ≠ He.ga X.K d.cls := by
    intro z
    rw [← z, ho] at hD1
    cases hD1
    cases hD2
  obtain ⟨m, hn, hl⟩ := I.loc
  have hka0 : X.env.kindOf "self" = some .local := by rw [hX]; exact hka
  obtain ⟨u, ru, l⟩ := hl 0 "self" (.ref a) hN hs (.inl hka0)
  rw [hX] at hk hn l hev
  generalize hEnv : PySem.W.envX qual scope L (iA X.K d.cls) (.ref cd) [("__class__", cc)] = env0 at *
  have hks' : env0.kindOf "super" = some .globalImplicit := by rw [← hEnv]; exact hks
  have hkc' : env0.kindOf "__class__" = some .free := by rw [← hEnv]; exact hkc
  have hka' : env0.kindOf "self" = some .local := by rw [← hEnv]; exact hka
  rw [hX] at hgl hbl
  rw [hX]
  subst hEnv
  obtain rfl : u = Value.ref a := ru
  have hm : m "self" = some (Value.ref a) := by
    rcases l with ⟨_, hm⟩ | ⟨hk2, _⟩
    · exact hm
    · rw [hka'] at hk2
      rcases hk2 with z | z <;> cases z
  obtain ⟨mb, hb1, hb2⟩ := I.mod.blt
  refine ks_wpAt_Expr_any ?_ (by unfold interactive; rw [hk]; rfl) rfl
  refine ks_wpAt_MethodCall (pl := pl) ?_ hev
  refine ks_wpAt_super_base (fd := fd) (ar := ar) hks' hkc' rfl rfl (I.kIn _ _ hfn) rfl hp rfl (I.kIn _ _ hcd) rfl hvs hfile htop ?_
  refine PySem.W.ks_loadName_global hk hks' (Calls.loadGlobal_builtin (by rw [hgl]; exact I.mod.glob.keeps I.bk) hsup (by rw [hbl]; exact hb1.keeps I.bk) ((hb2 _ (by decide)).trans (by decide +kernel : bootBuiltins "super" = some (.type "super"))) ⟨rfl, ?_⟩)
  refine wpAny_loadName_free hk hkc' rfl ⟨_, I.kIn _ _ hcell, rfl⟩ ?_
  rw [har]
  refine wpAny_loadName_local hk hka' hn hm ?_
  refine ks_wpAny_isType_cls hD1 hD2 ⟨rfl, ?_⟩
  obtain ⟨hh, g, dr, t, os⟩ := s
  refine ks_wpAny_call_super hD1 hD2 ho rfl (by intro c e; cases e) (PySem.W.looks_mroIn I.kIn T.own) (fun h' e1 k => ?_)
  have I1 : Inv X [] σ H ⟨h', g, dr, t, os⟩ := I.kept (t' := t) k
  have hI : PySem.W.Looks (model X.prog X.w) h' (isInstance (.ref a) (.type "ValueError")) true :=
    (PySem.W.InstAt.type (⟨k _ _ ho, rfl, rfl, trivial⟩ : PySem.W.InstAt h' a { cls := .ref (He.ga X.K d.cls), dict := none, data := .fields #[.ref t1, .none, .none, .none, .bool false, .none] } (He.ga X.K d.cls) none)).andThen (PySem.W.looks_subIn I1.kIn T.ve)
  refine PySem.W.kxs_getMethod PySem.W.kxs_ValueError e1 (PySem.W.looks_opaque I1.kIn hop) (l₀ := cdd.mro) ((PySem.W.looks_clsIn I1.kIn hcl).andThen .now) (by rw [hmro]; exact ESX.drop_own _ _) I1.kIn hal hI hne (by decide) ?_
  have kk2 : ∀ b o, h'.get? b = some o → (h'.push (PySem.W.kxs_mw "ValueError.__init__" a)).get? b = some o := fun b o e => Heap.get?_push_of_some _ e
  have I2 : Inv X [] σ H ⟨h'.push (PySem.W.kxs_mw "ValueError.__init__" a), g, dr, t + 1, os⟩ := I1.kept (t' := t + 1) kk2
  have hu : (h'.push (PySem.W.kxs_mw "ValueError.__init__" a)).get? h'.objs.size = some (PySem.W.kxs_mw "ValueError.__init__" a) := Heap.get?_push_size _ rfl
  refine PySem.W.kxs_callWith (i := "ValueError.__init__") (x := a) rfl ?_
  refine Calls.evalArgs_plain ?_
  show wpAny _ _ (spliced [(false, eval (.Constant (.str text) kk p6) _)]) _ _ _
  refine Calls.spliced_cons (Calls.Constant_str ?_)
  refine Calls.spliced_nil ⟨hu, ?_⟩
  have I3 : Inv X [] σ H ⟨h'.push (PySem.W.kxs_mw "ValueError.__init__" a), g, dr, t + 1 + 1, os⟩ := I2.tok (t + 1 + 1)
  exact mw_ok T.ox I3 ea hu (by show 1 ≤ sizeLine; decide) fun s' J => ⟨rfl, J⟩
end
/-- the promise of such an __init__: the field is set -/
def sp_err (d : ErrD) (K : PySem.W.Frag) : Sp := fun vs H Q _ => ∃ (a : Addr) (v : V), vs = [.ref a, v] ∧ H a = some (exo a (He.ga K d.cls) none) ∧
  ∀ dx, H dx = none → dx ≠ a → Q .non (upd (upd H dx (exd dx [(d.fld, v)])) a (exo a (He.ga K d.cls) (some dx)))
theorem fn_err {P : Program} {w : World} {K : PySem.W.Frag} {mg : Str → Option Value} {base : Heap} {d : ErrD} {file text p : Str} {ar : Arg} {p0 p1 p2 p3 p4 p6 q0 q1 q2 q3 : Pos} {kk : Nat} {pl : Sem Bool}
    (T : ErrK K d file) (hop : PySem.W.nsIn K cStatics "thirdparty.any" = some none) (hfile : (P.main.file == file) = true) (htop : (P.main.scope.names.lookup ("super" : Str)).isSome = false) (hsup : mg "super" = none)
    (hpar : (d.params.posonlyargs ++ d.params.args).head? = some ar) (har : ar.arg = "self") (hbody : d.body = [.Expr (supCall p0 p1 p2 p3 p6 text kk) p4, .Assign [.Attribute (.Name "self" q0) d.fld q1] (.Name p q2) q3])
    (hev : ∀ L f cd cl, SupEv p0 p1 p2 p3 p6 text kk pl (PySem.W.envX d.qual d.scope L f cd cl))
    (hS : nscB ["self", p, "__class__"] ["self", p] ["__class__"] d.scope = true) (hks : d.scope.names.lookup ("super" : Str) = some .globalImplicit)
    (hpp : (p == ("__debug__" : Str)) = false ∧ (p == ("__classdict__" : Str)) = false) :
    ∃ fd, FnOk P w K mg base (L2.CX P w) 1 (iA K d.cls) fd ["self", p] (sp_err d K) ∧ ∃ doc pm cd ct cc, fd = PySem.W.fnX "__init__" d.qual d.params d.body d.scope [("__class__", cc)] .none .none doc pm none (.ref cd) ct := by
  obtain ⟨oc, od, osl, doc, pm, cd, ct, cc, hfn, hcode, ⟨c1, c2, c3, hcell⟩, e1, e2, cvs, tf, e3, hcd, hvs⟩ := T.fn
  have S := nscope_by hS
  refine ⟨_, ⟨fun vs H Q E h => ?_, fun A outer s H args us vs Q E hr e0 hb r hsp => ?_⟩, doc, pm, cd, ct, cc, rfl⟩
  · obtain ⟨_, _, e, _⟩ := h
    rw [e]
    rfl
  · obtain ⟨a, v, rfl, ea, q⟩ := hsp
    have hl : [V.ref a, v].length = (["self", p] : List Str).length := rfl
    have KX : K.In s.heap := e0.mod.kin.keeps fun b o e => (e0.bs b o e).1
    have lim : s.heap.NoLimit := e0.mod.nolimit.keeps fun b o e => (e0.bs b o e).1
    let F : NF := ⟨"__init__", d.qual, d.params, d.body, d.scope, [("__class__", cc)], cd⟩
    have C : CellsAt F.cl ["__class__"] [none] s.heap H := by
      have hH : H cc = none := (e0.bs cc _ (e0.mod.kin _ _ hcell)).2
      refine ⟨rfl, fun y c h => ?_, fun x y c h1 h2 => ?_, fun i y h => ?_⟩
      · have h : (match y == ("__class__" : Str) with | true => some cc | false => none) = some c := h
        split at h
        · cases h
          exact ⟨hH, _, _, KX _ _ hcell, rfl⟩
        · cases h
      · have h1 : (match x == ("__class__" : Str) with | true => some cc | false => none) = some c := h1
        have h2 : (match y == ("__class__" : Str) with | true => some cc | false => none) = some c := h2
        split at h1
        · rename_i k1
          split at h2
          · rename_i k2
            rw [beq_iff_eq.mp k1, beq_iff_eq.mp k2]
          · cases h2
        · cases h1
      · cases i with
        | zero =>
          have e : "__class__" = y := by simpa using h
          subst e
          exact ⟨cc, rfl, fun v h => by cases h⟩
        | succ i => simp at h
    refine ks_codeAny_call_defAt (body := d.body) hr.depth (KX _ _ hfn) rfl lim (PySem.W.codeRec_of KX hcode) rfl hb S.nocell (fun ⟨n, _⟩ hy => S.par n (List.of_mem_zip hy).1) (fun h₁ hns kp => ?_) S.co S.gen S.kind
    have I : Inv (ncx (L2.CX P w) P w K mg base ["self", p, "__class__"] F (iA K d.cls) A outer s H E) [] (startF ["self", p, "__class__"] [.ref a, v] [none]) H { s with heap := h₁, toks := s.toks + ((["self", p] : List Str).zip us).length } :=
      inv_startN S hr.hd e0 hl r C hns kp
    rw [hbody]
    refine ks_wpAt_execs_cons (ks_wpAt_mono (super_ok (X := ncx (L2.CX P w) P w K mg base ["self", p, "__class__"] F (iA K d.cls) A outer s H E) T hop rfl hfn hpar har hcell hcd hvs hfile htop hsup hks (S.frk _ (List.mem_singleton.mpr rfl)) (S.par _ (by simp)) (hev _ _ _ _) I ea rfl rfl) (fun fl s' h => ?_) fun _ _ h => h)
    obtain ⟨rfl, J⟩ := h
    refine wpAt_of_wpAny ?_
    have ps : PSs (ncx (L2.CX P w) P w K mg base ["self", p, "__class__"] F (iA K d.cls) A outer s H E) [.Assign [.Attribute (.Name "self" q0) d.fld q1] (.Name p q2) q3] (tOst K d.fld (tVar 0) (tVar 1)) :=
      pss_one (ps_ost (pe_var (i := 0) rfl (.inl (S.par _ (by simp)))) (pe_var (i := 1) rfl (.inl (S.par _ (by simp))) hpp.1 hpp.2))
    refine wpAny_mono (ps.run [] _ _ _ ⟨fun _ H' => Q .non H', Q, fun _ _ => False, fun _ _ => False⟩ J ⟨v, rfl, .ref a, rfl, a, _, rfl, T.ox, T.noat, .inl ⟨ea, q⟩⟩) (fun fl s' hs => ?_) fun e s' hs => hs
    have fin : ∀ {σ' : L2.St} {H' : Hp} {v' : V} {u : Value}, Inv (ncx (L2.CX P w) P w K mg base ["self", p, "__class__"] F (iA K d.cls) A outer s H E) [] σ' H' s' → L2.RelV v' u → Q v' H' → CE outer P w H s Q u s' :=
      fun {σ' H' v' u} J rv q => ⟨v', H', J.os, J.bare, J.base, J.hok, rv, q⟩
    cases fl with
    | ret u =>
      obtain ⟨v', σ', H', J, rv, q⟩ := hs
      exact fin J rv q
    | next =>
      obtain ⟨σ', H', J, q⟩ := hs
      exact fin (v' := V.non) (u := Value.none) J rfl q
    | brk =>
      obtain ⟨_, _, _, q⟩ := hs
      exact False.elim q
    | cont =>
      obtain ⟨_, _, _, q⟩ := hs
      exact False.elim q
end My

namespace My
open PySem PySem.Spec L2 PyProof.Rows
/-! ### own classes, as callers see them -/
structure MethOk (P : Program) (w : World) (K : PySem.W.Frag) (mg : Str → Option Value) (base : Heap) (C : Addr) (m : Str) (k : Nat) (ps : List Str) (ds : List V) (sp : Sp) : Prop where
  ex : ∃ (fd : FuncData) (dsv : List Value), Cls K C ∧ Meth K C m (He.ma K C m) ∧ FnOk P w K mg base (L2.CX P w) k (He.ma K C m) fd ps sp ∧ Binds K fd ps dsv ∧ Vals ds dsv
structure MakeOk (P : Program) (w : World) (K : PySem.W.Frag) (mg : Str → Option Value) (base : Heap) (x : Str) (k : Nat) (ps : List Str) (ds : List V) (sp : Sp) : Prop where
  ex : ∃ (fd : FuncData) (dsv : List Value), Mk K (He.ga K x) (He.ma K (He.ga K x) "__init__") ∧ mg x = some (.ref (He.ga K x)) ∧ FnOk P w K mg base (L2.CX P w) k (He.ma K (He.ga K x) "__init__") fd ps sp ∧ Binds K fd ps dsv ∧ Vals ds dsv
structure MakeKw (P : Program) (w : World) (K : PySem.W.Frag) (mg : Str → Option Value) (base : Heap) (x : Str) (k : Nat) (ps : List Str) (n : Nat) (ks : List Str) (gV : List V → List V → List V) (sp : Sp) : Prop where
  ex : ∃ (fd : FuncData) (g : List Value → List Value → List Value), Mk K (He.ga K x) (He.ma K (He.ga K x) "__init__") ∧ mg x = some (.ref (He.ga K x)) ∧ FnOk P w K mg base (L2.CX P w) k (He.ma K (He.ga K x) "__init__") fd ps sp ∧ KBn K fd ps (n + 1) ks g gV
section
variable {X : Cx} {k n : Nat} {sp : Sp} {E : XK} {C : Addr} {x m : Str} {p pos apos : Pos} {e o : Expr} {es : List Expr} {kws : List Keyword} {t tk : TA} {ta : TE} {ps ks : List Str} {ds : List V} {gV : List V → List V → List V} {pl : Sem Bool}
theorem pe_methM (D : MethOk X.prog X.w X.K X.mg X.base C m k ps ds sp) (hr : Room k X.A) (hx : Passes (L2.CX X.prog X.w) X E) (he : PE X o ta) (ha : PA X (e :: es) t)
    (hst : starEach (e :: es) X.env = (false, eval e X.env) :: starEach es X.env := by rfl) (hpl : (backTo pos (starEach es X.env)).any (·.1) = false := by rfl)
    (ht : eval (.Call (.Attribute o m apos) (e :: es) [] pos) X.env = (do
      let ov ← eval o X.env
      standAt apos.atName
      let (g, first) ← holding [ov] (getMethod ov m pl)
      callWith pos g first (backTo pos (starEach (e :: es) X.env)) (backToKw pos (keywordEach [] X.env))) := by rfl) :
    PE X (.Call (.Attribute o m apos) (e :: es) [] pos) (tMeth C m sp ds E ta t) := by
  obtain ⟨fd, dsv, c, hm, F, hb, hd⟩ := D.ex
  exact pe_meth he c hm F hr hb hd hx ha hst hpl ht
theorem pe_methM0 (D : MethOk X.prog X.w X.K X.mg X.base C m k ps ds sp) (hr : Room k X.A) (hx : Passes (L2.CX X.prog X.w) X E) (he : PE X o ta)
    (ht : eval (.Call (.Attribute o m apos) [] [] pos) X.env = (do
      let ov ← eval o X.env
      standAt apos.atName
      let (g, first) ← holding [ov] (getMethod ov m pl)
      callWith pos g first (backTo pos (starEach [] X.env)) (backToKw pos (keywordEach [] X.env))) := by rfl) :
    PE X (.Call (.Attribute o m apos) [] [] pos) (tMeth C m sp ds E ta tNil) := by
  obtain ⟨fd, dsv, c, hm, F, hb, hd⟩ := D.ex
  exact pe_meth0 he c hm F hr hb hd hx ht
theorem pe_makeM (D : MakeOk X.prog X.w X.K X.mg X.base x k ps ds sp) (hr : Room (k + 1) X.A) (hg : Gl X x) (hx : Passes (L2.CX X.prog X.w) X E) (ha : PA X (e :: es) t)
    (hdb : (x == ("__debug__" : Str)) = false := by decide) (he : starEach (e :: es) X.env = (false, eval e X.env) :: starEach es X.env := by rfl) (hpl : (backTo pos (starEach es X.env)).any (·.1) = false := by rfl) :
    PE X (.Call (.Name x p) (e :: es) [] pos) (tMake (He.ga X.K x) sp ds E t) := by
  obtain ⟨fd, dsv, M, hm, F, hb, hd⟩ := D.ex
  exact pe_make M F hr hg hm hb hd hx ha hdb he hpl
theorem pe_makeMK (D : MakeKw X.prog X.w X.K X.mg X.base x k ps n ks gV sp) (hr : Room (k + 1) X.A) (hg : Gl X x) (hx : Passes (L2.CX X.prog X.w) X E) (ha : PA X (e :: es) t) (hkw : PK X kws tk)
    (hall : (backToKw pos (keywordEach kws X.env)).all (·.1.isSome) = true := by rfl) (hks : (backToKw pos (keywordEach kws X.env)).filterMap (·.1) = ks := by rfl) (hdb : (x == ("__debug__" : Str)) = false := by decide)
    (he : starEach (e :: es) X.env = (false, eval e X.env) :: starEach es X.env := by rfl) (hpl : ((backTo pos (starEach (e :: es) X.env)).any (·.1) || (backToKw pos (keywordEach kws X.env)).any (·.1.isNone)) = false := by rfl) :
    PE X (.Call (.Name x p) (e :: es) kws pos) (tMakeK (He.ga X.K x) n ks.length sp gV E t tk) := by
  obtain ⟨fd, g, M, hm, F, hb⟩ := D.ex
  exact pe_makeK M F hr hg hm hb hx ha hkw hall hks hdb he hpl
/-- a def called within a try's body -/
theorem pe_defT {W : WX} (D : DefOk X.prog X.w X.K X.mg X.base x k ps ds sp) (hr : Room k X.A) (hg : Gl X x) (tkw : Takes X W) (ha : PA X (e :: es) t)
    (hdb : (x == ("__debug__" : Str)) = false := by decide) (he : starEach (e :: es) X.env = (false, eval e X.env) :: starEach es X.env := by rfl) (hpl : (backTo pos (starEach es X.env)).any (·.1) = false := by rfl) :
    PE X (.Call (.Name x p) (e :: es) [] pos) (tCallSD sp ds (WE W) t) := by
  obtain ⟨f, fd, dsv, F, hm, hk, hb, hv⟩ := D.ex
  exact pe_callSD F hr hg hm hk hb hv (fun σ => passAt tkw σ) ha hdb he hpl
end
/-! ### steps -/
section
variable {σ : L2.St} {H : Hp} {Q : VK} {K : PySem.W.Frag} {F : Hp → Prop} {cs : List (Addr × HO)} {p q a C dx : Addr} {x y v : V} {xs ys : List V} {i j : Int} {f m : Str} {fs : List (Str × V)} {ta : TE} {t tk : TA} {sp : Sp} {E : XK} {ds : List V}
/-- what a class says of a field's name -/
def FldK (K : PySem.W.Frag) (C : Addr) (f : Str) : Prop := Cls K C ∧ NoAttr K C f
def FldW (K : PySem.W.Frag) (f : Str) (x : V) (H1 : Hp) (Q : VK) : Prop := ∃ a C dx fs v, x = .ref a ∧ H1 a = some (.ins C dx fs) ∧ Cls K C ∧ NoAttr K C f ∧ fs.lookup f = some v ∧ Q v H1
theorem x_fld (h : ta σ H fun x H1 => FldW K f x H1 Q) : tFld K ta f σ H Q := h
theorem x_f (k : FldK K C f) (h : H a = some (.ins C dx fs)) (l : fs.lookup f = some v) (q : Q v H) : FldW K f (.ref a) H Q := ⟨a, C, dx, fs, v, rfl, h, k.1, k.2, l, q⟩
def ConW (K : PySem.W.Frag) (f : Str) (x : V) (H1 : Hp) (Q : VK) : Prop := ∃ a C dx fs v u, x = .ref a ∧ H1 a = some (.ins C dx fs) ∧ Cls K C ∧ Con K C f v u ∧ fs.lookup f = none ∧ Q v H1
theorem x_con (h : ta σ H fun x H1 => ConW K f x H1 Q) : tCon K ta f σ H Q := h
theorem x_c0 (k : Cls K C) (z : ∃ u, Con K C f v u) (h : H a = some (.ins C dx fs)) (l : fs.lookup f = none) (q : Q v H) : ConW K f (.ref a) H Q := by
  obtain ⟨u, z⟩ := z
  exact ⟨a, C, dx, fs, v, u, rfl, h, k, z, l, q⟩
def MethW (C : Addr) (m : Str) (x : V) (H1 : Hp) (R : Prop) : Prop := ∃ a dx fs, x = .ref a ∧ H1 a = some (.ins C dx fs) ∧ fs.lookup m = none ∧ R
theorem x_meth (h : ta σ H fun x H1 => MethW C m x H1 (t σ H1 fun vs H2 => sp (x :: (vs ++ ds)) H2 Q E)) : tMeth C m sp ds E ta t σ H Q := h
theorem x_m {R : Prop} (h : H a = some (.ins C dx fs)) (l : fs.lookup m = none) (q : R) : MethW C m (.ref a) H R := ⟨a, dx, fs, rfl, h, l, q⟩
def MakeW (C : Addr) (sp : Sp) (E : XK) (vs : List V → List V) (H2 : Hp) (Q : VK) : Prop := ∀ x dx, H2 x = none → H2 dx = none → dx ≠ x → sp (vs [.ref x]) (upd (upd H2 dx (.own x)) x (.ins C dx [])) (fun v H3 => v = .non ∧ Q (.ref x) H3) E
theorem x_make (h : t σ H fun vs H1 => MakeW C sp E (fun s => s ++ (vs ++ ds)) H1 Q) : tMake C sp ds E t σ H Q := h
theorem x_makeK {n m : Nat} {gV : List V → List V → List V} (h : t σ H fun vs H1 => tk σ H1 fun zs H2 => vs.length = n ∧ zs.length = m ∧ MakeW C sp E (fun s => gV (s ++ vs) zs) H2 Q) : tMakeK C n m sp gV E t tk σ H Q := h
/-- a new instance and its dict, then its __init__ -/
theorem x_new2 {g : List V → List V} (s : S F cs H) (k : ∀ x dx H', S F ((x, .ins C dx []) :: (dx, .own x) :: cs) H' → sp (g [.ref x]) H' (fun v H3 => v = .non ∧ Q (.ref x) H3) E) : MakeW C sp E g H Q := by
  intro x dx h1 h2 h3
  refine k x dx _ ((s.alloc h2).alloc ?_)
  rw [upd_ne (Ne.symm h3)]
  exact h1
def SFldW (K : PySem.W.Frag) (f : Str) (y x : V) (H2 : Hp) (R : Hp → Prop) : Prop := ∃ a C dx fs, x = .ref a ∧ H2 a = some (.ins C dx fs) ∧ Cls K C ∧ NoAttr K C f ∧ fs.length < 1000 ∧ R (upd H2 a (.ins C dx (putF f y fs)))
theorem x_sfld {tv : TE} {D : Ends} (h : tv σ H fun y H1 => ta σ H1 fun x H2 => SFldW K f y x H2 fun H3 => D.nx σ H3) : sFld K ta tv f D σ H := h
theorem x_sf {R : Hp → Prop} (s : S F cs H) (k : FldK K C f) {n : Nat} (h : cs[n]? = some (a, .ins C dx fs)) (hl : fs.length < 1000) (q : ∀ H', S F (cs.set n (a, .ins C dx (putF f y fs))) H' → R H') : SFldW K f y (.ref a) H R :=
  ⟨a, C, dx, fs, rfl, s.at n h, k.1, k.2, hl, q _ (s.set n h _)⟩
theorem x_callSD {W : WX} (h : t σ H fun vs H1 => sp (vs ++ ds) H1 Q (WE W σ)) : tCallSD sp ds (WE W) t σ H Q := h
end
/-! ### raise, try .. except X as n -/
/-- a field's name that a class does not have, a constant of a class -/
def tRaiseM (C : Addr) (sp : Sp) (dvs : List V) (ta : TA) (W : WX) : TS := fun _ σ H => tMkO C sp dvs ta σ H fun cls d H' => W cls d σ H'
def tTry (K : PySem.W.Frag) (c : Value) (i : Nat) (tb : WX → TS) (ts : Addr → Value → Option Addr → TS) (Wout : WX) : TS := fun D σ H => tb (wAs K c i ts Wout D) D σ H
section
variable {X : Cx} {C : Addr} {k : Nat} {d : ErrD} {x : Str} {W : WX} {p pos pos2 : Pos} {e : Expr} {ta : TA} {file : Str} {ps : List Str}
/-- what callers see of an own error -/
structure RaiseOk (P : Program) (w : World) (K : PySem.W.Frag) (mg : Str → Option Value) (base : Heap) (d : ErrD) (ps : List Str) : Prop where
  ex : ∃ fd, FnOk P w K mg base (L2.CX P w) 1 (iA K d.cls) fd ps (sp_err d K) ∧ Binds K fd ps [] ∧ mg d.cls = some (.ref (He.ga K d.cls)) ∧ OexC K (He.ga K d.cls) ∧
    PySem.W.findIn K (.ref (He.ga K d.cls)) "__init__" = some (some (.ref (iA K d.cls))) ∧ PySem.W.typeIn K (.ref (iA K d.cls)) = some (.type "function")
theorem ps_raiseM (hc : X.calm = true) (R : RaiseOk X.prog X.w X.K X.mg X.base d ps) (hr : Room 2 X.A) (tkw : Takes X W) (hp : Passes (L2.CX X.prog X.w) X (fun _ _ _ => False)) (hd : d.cls = x) (hg : Gl X x) (ha : PA X [e] ta)
    (hdb : (x == ("__debug__" : Str)) = false := by decide) (he : starEach [e] X.env = (false, eval e X.env) :: starEach [] X.env := by rfl) (hpl : (backTo pos (starEach [] X.env)).any (·.1) = false := by rfl) :
    PS X (.Raise (some (.Call (.Name x p) [e] [] pos)) none pos2) (tRaiseM (He.ga X.K x) (sp_err d X.K) [] ta W) := by
  subst hd
  obtain ⟨fd, F1, hb, hm, T, iC, tI⟩ := R.ex
  exact ps_raise hc tkw (pmk_oex T iC tI F1 hr hb .nil hp hg hm ha hdb he hpl)
end
/-- raise: the error's dict, new, holds the field -/
def RaiseW (C : Addr) (sp : Sp) (W : WX) (σ : L2.St) (vs : List V) (H1 : Hp) : Prop := vs.length ≤ 1000 ∧ ∀ a, H1 a = none → sp (.ref a :: (vs ++ [])) (upd H1 a (exo a C none))
  (fun v H2 => v = .non ∧ ∃ (d : Addr) (fs : List (Str × V)), H2 a = some (exo a C (some d)) ∧ H2 d = some (exd d fs) ∧ H1 d = none ∧ W (.ref C) (some d) σ (upd (del H2 a) d (.xd fs))) (fun _ _ _ => False)
section
variable {K : PySem.W.Frag} {d : ErrD} {ta : TA} {W : WX} {D : Ends} {σ : L2.St} {H : Hp} {C : Addr} {sp : Sp} {v : V}
theorem x_raiseM (h : ta σ H fun vs H1 => RaiseW C sp W σ vs H1) : tRaiseM C sp [] ta W D σ H := h
theorem x_rz (hC : He.ga K d.cls = C) (q : ∀ dd, H dd = none → W (.ref C) (some dd) σ (upd H dd (.xd [(d.fld, v)]))) : RaiseW C (sp_err d K) W σ [v] H := by
  subst hC
  refine ⟨by show 1 ≤ 1000; decide, fun a ha => ⟨a, v, rfl, upd_same, fun dx h1 h2 => ⟨rfl, dx, [(d.fld, v)], upd_same, ?_, ?_, ?_⟩⟩⟩
  · rw [upd_ne h2, upd_same]
  · rw [upd_ne h2] at h1
    exact h1
  · have e : upd (del (upd (upd (upd H a (exo a (He.ga K d.cls) none)) dx (exd dx [(d.fld, v)])) a (exo a (He.ga K d.cls) (some dx))) a) dx (.xd [(d.fld, v)]) = upd H dx (.xd [(d.fld, v)]) := by
      funext b
      by_cases hb : b = dx
      · rw [hb, upd_same, upd_same]
      · rw [upd_ne hb, upd_ne hb]
        by_cases hb2 : b = a
        · rw [hb2, del_same, ha]
        · rw [del_ne hb2, upd_ne hb2, upd_ne hb, upd_ne hb2]
    rw [e]
    refine q dx ?_
    rw [upd_ne h2] at h1
    exact h1
end
/-! ### isinstance and a field of a caught error -/
section
open PySem.W
variable {prog : Program} {w : World} {A : Around} {E : Value → Shared → Prop} {s : Shared} {K : Frag} {x D : Addr} {ox : Obj} {od : Option Obj}
theorem class_of {Q : Option Value → Shared → Prop} (c : ExcC K D) (X : K.In s.heap) (I : InstAt s.heap x ox D od) (h : Q (some (.ref D)) { s with toks := s.toks + 1 }) : wpAny (model prog w) A (getAttr? (.ref x) "__class__") Q E s := by
  have hf : findObj K D od "__class__" = some (.bind (.builtin "getset_descriptor.__get__") (.builtin "object.__class__")) := by
    obtain ⟨cd, hc, _⟩ := any_some c.hd
    unfold findObj
    rw [hc, Option.bind_some, c.ha, Option.bind_some]
    simp [c.hn, c.ht]
  obtain ⟨hp, g, dr, t, os⟩ := s
  have l0 := I.type (M := model prog w)
  have l1 := looks_findIn (M := model prog w) X c.hg
  have l2 := looks_findIn (M := model prog w) X c.hk
  have l3 := looks_find (M := model prog w) X I hf
  have sb : Looks (model prog w) hp (isInstance (.ref x) (.type "BaseException")) true := l0.andThen (looks_subIn X c.hs)
  unfold getAttr? getAttrBy? getAttrBy
  refine wpAny_bind (wpAny_mkText (wpAny_bind (wpAny_attempt (wpAny_holding (wpAny_bind (l0.at (wpAny_bind (l1.at ?_))))))))
  show wpAny _ _ (if (onTheHeap (Value.ref D) && Value.builtin "BaseException.__getattribute__" == Value.builtin "object.__getattribute__") = true then _ else _) _ _ _
  rw [if_neg (show ¬ (onTheHeap (Value.ref D) && Value.builtin "BaseException.__getattribute__" == Value.builtin "object.__getattribute__") = true by
    rw [show (Value.builtin "BaseException.__getattribute__" == Value.builtin "object.__getattribute__") = false from by decide +kernel, Bool.and_false]
    exact Bool.false_ne_true)]
  unfold getAttrByItsOwn hookBefore
  refine wpAny_bind ?_
  rw [if_pos (show onTheHeap (Value.ref D) = true from rfl)]
  refine l2.at (wpAny_bind (wpAny_attempt (wpAny_holding ?_)))
  unfold callGetattribute
  rw [show (false && onTheHeap (Value.builtin "BaseException.__getattribute__")) = false from rfl, if_neg Bool.false_ne_true]
  unfold boundAndCalled
  rw [PySem.F.excAttr_ValueError.ga.bind (.ref x)]
  refine wpAny_bind (wpAny_pure ?_)
  show wpAny _ _ (call (.builtin "BaseException.__getattribute__") [.ref x, .str "__class__" t]) _ _ _
  refine wpAny_call (codeAny_call_builtin PySem.F.excAttr_ValueError.ga.plain PySem.F.entry_bexc_ga ?_)
  refine @check_slot (model prog w) _ _ ⟨hp, g, dr, t + 1, os⟩ "BaseException.__getattribute__" "BaseException" "__getattribute__" (.ref x) [.str "__class__" t] [] _ (by decide +kernel) (by decide +kernel) sb (PySem.F.args_bexc_ga (.ref x) (.str "__class__" t)) ?_
  unfold Builtin.«object.__getattribute__»
  refine wpAny_bind (wpAny_of_eq (a := ((Value.ref x : Value), [Value.str "__class__" t])) (by first | rfl | (simp only [slotArgs]; rfl)) ?_)
  refine wpAny_bind (wpAny_pure (wpAny_bind (l0.at (wpAny_bind (l3.at ?_)))))
  show wpAny _ _ (holding [Value.builtin "object.__class__"] (call (.builtin "getset_descriptor.__get__") [.builtin "object.__class__", .ref x, .ref D]) >>= ret) _ _ _
  refine wpAny_bind (wpAny_holding (wpAny_call (class_get (s := ⟨hp, g, dr, t + 1, os⟩) (ox := ox) (od := od) X I c.hm (wpAny_pure ?_))))
  show wpAny _ _ (handedOut (.ref D)) _ _ _
  rw [handedOut_of (v := .ref D) rfl]
  first
    | exact wpAny_pure (wpAny_pure h)
    | exact wpAny_pure h
    | exact wpAny_pure (wpAny_bind (wpAny_pure (wpAny_pure h)))
theorem kit_err (c : ExcC K D) : KitX K (.ref x) (.ref D) (fun h => InstAt h x ox D od) := by
  have cl : ∃ o, K.lookup D = some o ∧ ∃ cd, o.data = .cls cd := by
    obtain ⟨cd, hc, _⟩ := any_some c.hd
    unfold clsIn at hc
    split at hc
    · rename_i a b cd' sl ho
      exact ⟨_, ho, _, rfl⟩
    · cases hc
  obtain ⟨o, ho, cd, hcd⟩ := cl
  refine ⟨fun _ _ _ I => I.type, fun _ _ X _ => ?_, fun h tp dd its n sl X htp => ?_, fun X I k => class_of c X I k⟩
  · intro A' Q' E' s' k q
    unfold isType loadHead
    refine wpAny_bind (wpAny_loadPart (k _ _ (X _ _ ho)) ?_)
    rw [hcd]
    exact wpAny_pure q
  · cases z : (Value.ref D == Value.ref tp) with
    | false => rfl
    | true =>
      obtain rfl : D = tp := Value.ref.inj (beq_iff_eq.mp z)
      rw [X _ _ ho] at htp
      cases htp
      cases hcd
end
/-- isinstance(e, class) or isinstance(e, (class, ..)), e the error that the suite holds -/
def rIsED (K : PySem.W.Frag) (cls : Value) (d : Option Addr) (a : Addr) : List V → Hp → VK → Prop := fun xs H Q => ∃ (D dd : Addr) (fs : List (Str × V)) (y : V), cls = .ref D ∧ d = some dd ∧ H dd = some (.xd fs) ∧ ExcC K D ∧ xs = [.ref a, y] ∧
  ((∃ (cv : Value) (b : Bool), (∀ u, RelV y u → u = cv) ∧ PySem.W.kitOne K (.ref D) cv = some b ∧ Q (.bl b) H) ∨
    ∃ (p : Addr) (Cs : List Addr) (b : Bool), y = .ref p ∧ SqT K H p (Cs.map V.ref) ∧ PySem.W.kitAny K (.ref D) (Cs.map Value.ref) = some b ∧ Q (.bl b) H)
theorem vals_refs : ∀ {Cs : List Addr} {us : List Value}, Vals (Cs.map V.ref) us → us = Cs.map Value.ref
  | [], _, .nil => rfl
  | c :: Cs, _, .cons r t => by
    cases r
    rw [vals_refs t]
    rfl
theorem call_isED {X : Cx} {a : Addr} {oe : Obj} {cls : Value} {d : Option Addr} {pn : List (Addr × Obj)} (hz : Zc cls d oe) (hf : ∃ vs, oe.data = .fields vs) : CallR (X.suite a ((a, oe) :: pn)) (.builtin "isinstance") (rIsED X.K cls d a) := by
  intro pins s σ H xs us Q I r h
  obtain ⟨D, dd, fs, y, rfl, rfl, hx, c, rfl, h⟩ := h
  cases r with | cons rx rr => ?_
  cases rr with | cons rt rr => ?_
  cases rr
  cases rx
  obtain ⟨hget, _⟩ := I.pin (a, oe) (List.mem_append_left _ List.mem_cons_self)
  obtain ⟨vs, hv⟩ := hf
  have ox : ObjOk X.prog X.w H s.heap dd (.xd fs) := I.hok dd _ hx
  obtain ⟨od, ho⟩ := objOk_get ox
  have J : PySem.W.InstAt s.heap a oe D (some od) := ⟨hget, hz.1, by unfold PySem.W.notCls; rw [hv] <;> rfl, by rw [hz.2]; exact ho⟩
  rcases h with ⟨cv, b, hcv, e, q⟩ | ⟨p, Cs, b, rfl, hp, e, q⟩
  · have ec := hcv _ rt
    subst ec
    exact PySem.W.kia_one (kit_err c) I.kIn J e (fun z => nomatch z) fun tk => ⟨.bl b, H, I.kept (t' := tk) fun _ _ z => z, rfl, q⟩
  · cases rt
    obtain ⟨its, rv, ⟨o, hto, hcl, n, hdt⟩, _⟩ := I.tuple hp
    have eits := vals_refs rv
    subst eits
    obtain ⟨oc, odd, odt, osl⟩ := o
    dsimp only at hcl hdt
    subst hcl hdt
    exact PySem.W.kia_tup (kit_err c) I.kIn J hto e (fun z => nomatch z) fun tk => ⟨.bl b, H, I.kept (t' := tk) fun _ _ z => z, rfl, q⟩
/-- what the class of a caught error says -/
def erB (K : PySem.W.Frag) (D : Addr) : Bool := decide (PySem.W.findIn K (.ref D) "__getattribute__" = some (some (.builtin "BaseException.__getattribute__"))) && (decide (PySem.W.findIn K (.ref D) "__getattr__" = some none) && (decide (PySem.W.subIn K (.ref D) (.type "BaseException") = some true) &&
  (PySem.W.hasDictIn K D && (decide (PySem.W.findIn K (.ref D) "__class__" = some (some (.builtin "object.__class__"))) && (decide (PySem.W.specialIn K (.builtin "object.__class__") "__get__" = some (some (.builtin "getset_descriptor.__get__"))) &&
  (decide (PySem.W.takesIn K (.builtin "object.__class__") = some true) && decide (PySem.W.mroIn K D (.type "object") = some true)))))))
theorem erB_ok {K : PySem.W.Frag} {D : Addr} (h : erB K D = true) : ExcC K D ∧ XfC K D := by
  unfold erB at h
  obtain ⟨h1, h⟩ := He.ba h
  obtain ⟨h2, h⟩ := He.ba h
  obtain ⟨h3, h⟩ := He.ba h
  obtain ⟨h4, h⟩ := He.ba h
  obtain ⟨h5, h⟩ := He.ba h
  obtain ⟨h6, h⟩ := He.ba h
  obtain ⟨h7, h8⟩ := He.ba h
  exact ⟨⟨of_decide_eq_true h1, of_decide_eq_true h2, of_decide_eq_true h3, h4, of_decide_eq_true h5, of_decide_eq_true h6, of_decide_eq_true h7, of_decide_eq_true h8⟩, ⟨of_decide_eq_true h1, of_decide_eq_true h2, of_decide_eq_true h3, h4⟩⟩
section
variable {K : PySem.W.Frag} {σ : L2.St} {H : Hp} {Q : VK} {a D dd C p : Addr} {fs : List (Str × V)} {f : Str} {v : V} {te : TE} {b : Bool} {y : V}
theorem x_isE {cv : Value} (hx : H dd = some (.xd fs)) (c : ExcC K D) (hcv : ∀ u, RelV y u → u = cv) (e : PySem.W.kitOne K (.ref D) cv = some b) (q : Q (.bl b) H) : rIsED K (.ref D) (some dd) a [.ref a, y] H Q :=
  ⟨D, dd, fs, y, rfl, rfl, hx, c, rfl, .inl ⟨cv, b, hcv, e, q⟩⟩
theorem x_isET {Cs : List Addr} (hx : H dd = some (.xd fs)) (c : ExcC K D) (hp : SqT K H p (Cs.map V.ref)) (e : PySem.W.kitAny K (.ref D) (Cs.map Value.ref) = some b) (q : Q (.bl b) H) : rIsED K (.ref D) (some dd) a [.ref a, .ref p] H Q :=
  ⟨D, dd, fs, _, rfl, rfl, hx, c, rfl, .inr ⟨p, Cs, b, rfl, hp, e, q⟩⟩
def XfW (a : Addr) (cls : Value) (d : Option Addr) (C : Addr) (f : Str) (x : V) (H1 : Hp) (Q : VK) : Prop := x = .ref a ∧ cls = .ref C ∧ ∃ (dd : Addr) (fs : List (Str × V)) (v : V), d = some dd ∧ H1 dd = some (.xd fs) ∧ fs.lookup f = some v ∧ Q v H1
theorem x_xf {cls : Value} {d : Option Addr} (h : te σ H fun x H1 => XfW a cls d C f x H1 Q) : tXf a cls d C f te σ H Q := h
theorem x_xf1 (hx : H dd = some (.xd fs)) (l : fs.lookup f = some v) (q : Q v H) : XfW a (.ref C) (some dd) C f (.ref a) H Q := ⟨rfl, rfl, dd, fs, v, rfl, hx, l, q⟩
end
end My

namespace My
open PySem PySem.Spec L2 PyProof.Rows
/-! ### the head's facts by an own Hook: He's facts and defs, own errors, one Bool more -/
abbrev AlM : Type := He.AlD × (List ErrV × (List He.FnW × Bool))
/-- a set of addresses: a tree by their digits -/
inductive ATr where
  | nil : ATr
  | node : Bool → ATr → ATr → ATr
def ATr.has : ATr → Nat → Bool
  | .nil, _ => false
  | .node b l r, a => match Nat.beq a 0 with
    | true => b
    | false => match Nat.beq (a % 2) 0 with
      | true => ATr.has l (a / 2)
      | false => ATr.has r (a / 2)
def ATr.put : Nat → ATr → Nat → ATr
  | 0, t, _ => t
  | n + 1, t, a => match t with
    | .nil => match Nat.beq a 0 with
      | true => .node true .nil .nil
      | false => match Nat.beq (a % 2) 0 with
        | true => .node false (ATr.put n .nil (a / 2)) .nil
        | false => .node false .nil (ATr.put n .nil (a / 2))
    | .node b l r => match Nat.beq a 0 with
      | true => .node true l r
      | false => match Nat.beq (a % 2) 0 with
        | true => .node b (ATr.put n l (a / 2)) r
        | false => .node b l (ATr.put n r (a / 2))
def addA : List Addr → ATr → List Addr → (ATr → List Addr → List Addr) → List Addr
  | [], t, acc, k => k t acc
  | a :: r, t, acc, k => match t.has a with
    | true => addA r t acc k
    | false => addA r (t.put 24 a) (a :: acc) k
def refsA (g : Addr → Option Obj) (as : List Addr) : List Addr := as.flatMap fun a => match g a with
  | some o => He.refsD o
  | none => []
def levA (g : Addr → Option Obj) : Nat → List Addr → ATr → List Addr
  | 0, fs, _ => fs
  | n + 1, fs, t => fs ++ addA (refsA g fs) t [] fun t' new => levA g n new t'
/-- what the module's names reach in n steps, each once -/
def asM (n : Nat) (g : Addr → Option Obj) : List Addr := cStatics :: addA [mainGlobals] .nil [] fun t as => levA g n as t
def obsM (n : Nat) (fa : List He.Fa) (fn : List He.DefD) (cm : List He5.DefA) (es : List ErrD) (file : Str) (ex : PySem.W.Frag → Bool) (g : Addr → Option Obj) : AlM :=
  (He.obsD fa fn (He.frT g (asM n g)), es.map fun d => errW (He.frT g (asM n g)) d.cls, cm.map fun d => He5.fnA (He.frT g (asM n g)) (d.at_ (He.frT g (asM n g))), (ex (He.frT g (asM n g)) && cm.all fun d => d.ok (He.frT g (asM n g))) && (decide (PySem.W.nsIn (He.frT g (asM n g)) cStatics "thirdparty.any" = some none) && es.all fun d => errB (He.frT g (asM n g)) d file))
def valM (fn : List He.DefD) (cm : List He5.DefA) (es : List ErrD) : AlM := (He.valD fn, es.map ErrD.val, cm.map He5.DefA.val, true)
structure SaysM (fa : List He.Fa) (fn : List He.DefD) (cm : List He5.DefA) (es : List ErrD) (file : Str) (ex : PySem.W.Frag → Bool) (K : PySem.W.Frag) : Prop where
  d : He.SaysD fa fn K
  more : ex K = true
  op : PySem.W.nsIn K cStatics "thirdparty.any" = some none
  err : ∀ (i : Nat) {d : ErrD}, es[i]? = some d → ErrK K d file
  cmd : ∀ (i : Nat) {d : He5.DefA}, cm[i]? = some d → ∃ fd, L2.FunD K d.name d.qual d.params d.body d.scope (d.dvs K) (d.kws K) (d.at_ K) fd
theorem saysM_of {n : Nat} {fa : List He.Fa} {fn : List He.DefD} {cm : List He5.DefA} {es : List ErrD} {file : Str} {ex : PySem.W.Frag → Bool} {g : Addr → Option Obj} (e : obsM n fa fn cm es file ex g = valM fn cm es) : SaysM fa fn cm es file ex (He.frT g (asM n g)) := by
  have e1 : He.obsD fa fn (He.frT g (asM n g)) = He.valD fn := congrArg (fun z : AlM => z.1) e
  have e2 : (es.map fun d => errW (He.frT g (asM n g)) d.cls) = es.map ErrD.val := congrArg (fun z : AlM => z.2.1) e
  have e5 : (cm.map fun d => He5.fnA (He.frT g (asM n g)) (d.at_ (He.frT g (asM n g)))) = cm.map He5.DefA.val := congrArg (fun z : AlM => z.2.2.1) e
  have e3 : ((ex (He.frT g (asM n g)) && cm.all fun d => d.ok (He.frT g (asM n g))) && (decide (PySem.W.nsIn (He.frT g (asM n g)) cStatics "thirdparty.any" = some none) && es.all fun d => errB (He.frT g (asM n g)) d file)) = true := congrArg (fun z : AlM => z.2.2.2) e
  obtain ⟨h0, h2⟩ := He.ba e3
  obtain ⟨h1, h5⟩ := He.ba h0
  obtain ⟨h3, h4⟩ := He.ba h2
  refine ⟨e1, h1, of_decide_eq_true h3, fun i d hi => ?_, fun i d hi => ?_⟩
  · have e4 : (es.map fun d => errW (He.frT g (asM n g)) d.cls)[i]? = (es.map ErrD.val)[i]? := by rw [e2]
    rw [List.getElem?_map, List.getElem?_map, hi] at e4
    exact errK_of (Option.some.inj e4) (List.all_eq_true.mp h4 d (List.mem_of_getElem? hi))
  · have e4 : (cm.map fun d => He5.fnA (He.frT g (asM n g)) (d.at_ (He.frT g (asM n g))))[i]? = (cm.map He5.DefA.val)[i]? := by rw [e5]
    rw [List.getElem?_map, List.getElem?_map, hi] at e4
    exact He5.DefA.funD (Option.some.inj e4) (List.all_eq_true.mp h5 d (List.mem_of_getElem? hi))
def hookM (n : Nat) (fa : List He.Fa) (fn : List He.DefD) (cm : List He5.DefA) (es : List ErrD) (file : Str) (ex : PySem.W.Frag → Bool) : PySem.W.Hook where
  α := AlM
  obs := fun s => obsM n fa fn cm es file ex s.heap.get?
  val := fun _ => valM fn cm es
  says := fun _ h => ∃ K : PySem.W.Frag, K.In h ∧ SaysM fa fn cm es file ex K
  of := fun _ _ e => ⟨_, He.frT_in, saysM_of e⟩
  keeps := fun _ _ _ ⟨K, hK, c⟩ k => ⟨K, PySem.W.Frag.In.keeps hK k, c⟩
theorem obsM_eq {n : Nat} {fa : List He.Fa} {fn : List He.DefD} {cm : List He5.DefA} {es : List ErrD} {file : Str} {ex : PySem.W.Frag → Bool} {g : Addr → Option Obj} {s : Shared} (h : ∀ a, g a = s.heap.get? a) : obsM n fa fn cm es file ex g = (hookM n fa fn cm es file ex).obs s := by
  have e : g = s.heap.get? := funext h
  rw [e] <;> rfl
end My

namespace My
open PySem PySem.Spec L2
def tNevE : TE := fun _ _ _ => False
theorem pe_nev {X : Cx} {e : Expr} : PE X e tNevE := ⟨fun _ _ _ _ _ _ h => h.elim⟩
theorem x_try {K : PySem.W.Frag} {c : Value} {i : Nat} {tb : WX → TS} {ts : Addr → Value → Option Addr → TS} {Wout : WX} {D : Ends} {σ : L2.St} {H : Hp} (h : tb (wAs K c i ts Wout D) D σ H) : tTry K c i tb ts Wout D σ H := h
end My

namespace My
open PySem PySem.Spec L2
theorem S.exE {α : Type} {P : α → Hp → Prop} {cs : List (Addr × HO)} {H : Hp} (s : S (fun B => ∃ x, P x B) cs H) (m : ∀ x, Mono (P x) := by infer_instance) : ∃ x, S (fun B => P x B) cs H := by
  obtain ⟨_, ⟨B, e, ⟨x, f⟩, fr⟩, c, nd⟩ := s
  exact ⟨x, ⟨m x, ⟨B, e, f, fr⟩, c, nd⟩⟩
/-- tuple(..) of a list or a tuple whose items are known -/
theorem x_tupB {K : PySem.W.Frag} {F : Hp → Prop} {cs : List (Addr × HO)} {H : Hp} {Q : VK} {p : Addr} {xs : List V} {b : Bool} (hF : ∀ B, F B → SqB b K B p xs) (s : S F cs H) (k : ∀ r H', S (fun B => SqB false K B r xs ∧ F B) cs H' → Q (.ref r) H') : rTuple1 K [.ref p] H Q := by
  have mF := s.mono
  cases b
  · exact x_tupofT (hF _ s.fact) (k p H (s.imp fun B f => ⟨hF B f, f⟩))
  · exact x_tupof (hF _ s.fact) s fun r H' s' => k r H' s'.freezeT
end My

namespace My
theorem fm_map {β : Type} (f : Nat → β) : ∀ n : Nat, (List.range n).filterMap (fun i => some (f i)) = (List.range n).map f
  | 0 => rfl
  | n + 1 => by
    rw [List.range_succ, List.filterMap_append, fm_map f n, List.map_append]
    rfl
theorem fm_const {β : Type} (v : β) (n : Nat) : (List.range n).filterMap (fun _ => some v) = List.replicate n v := by
  rw [fm_map (fun _ => v)]
  induction n with
  | zero => rfl
  | succ n ih => rw [List.range_succ, List.map_append, ih, List.replicate_succ']; rfl
end My

namespace My
open PySem PySem.Spec L2
theorem dpAll_snoc {K : PySem.W.Frag} {H : Hp} : ∀ {xs : List V} {ds : List PyData} {v : V} {d : PyData}, DpAll K H xs ds → Dp K H v d → DpAll K H (xs ++ [v]) (ds ++ [d])
  | _, _, _, _, .nil, h => .cons h .nil
  | _, _, _, _, .cons a b, h => .cons a (dpAll_snoc b h)
theorem dpAll_ints {K : PySem.W.Frag} {H : Hp} : ∀ ns : List Int, DpAll K H (ns.map V.int) (ns.map PyData.int)
  | [] => .nil
  | n :: r => .cons (.int n) (dpAll_ints r)
theorem dp_ints {K : PySem.W.Frag} {H : Hp} {p : Addr} {ns : List Int} (h : SqL K H p (ns.map V.int)) : Dp K H (.ref p) (.list (ns.map PyData.int)) := .lst h (dpAll_ints ns)
theorem b8000 {n : Int} (h : n ≤ 1000000) : n < 2 ^ 8000 := Int.lt_of_le_of_lt h (by decide +kernel)
/-- two lists of the same ints are not unlike -/
theorem x_neInts {K : PySem.W.Frag} {H : Hp} {Q : VK} {p q : Addr} {ns : List Int} (hp : SqL K H p (ns.map V.int)) (hq : SqL K H q (ns.map V.int)) (k : Q (.bl false) H) : rNe1 K (.ref p) (.ref q) H Q := by
  refine .inr ⟨.list (ns.map PyData.int), .list (ns.map PyData.int), dp_ints hp, dp_ints hq, PySem.W.ke_shaped_ints ns, PySem.W.ke_shaped_ints ns, ?_⟩
  rw [SeqAt.eqv_refl _ (SeqAt.canLay_of_shaped (PySem.W.ke_shaped_ints ns))]
  exact k
end My

namespace My
open PySem PySem.Spec L2
theorem was_true {K : PySem.W.Frag} {c cls : Value} {i : Nat} {ts : Addr → Value → Option Addr → TS} {Wout : WX} {D : Ends} {d : Option Addr} {σ : L2.St} {H : Hp} (h : PySem.W.exmOne K cls c = some true)
    (q : ∀ a, H a = none → ts a cls d { nx := fun σ' H' => D.nx (σ'.set i none) H', rt := D.rt, bk := fun σ' H' => D.bk (σ'.set i none) H', ct := fun σ' H' => D.ct (σ'.set i none) H' } (σ.set i (some (.ref a))) H) : wAs K c i ts Wout D cls d σ H :=
  ⟨true, h, fun _ => q, fun z => by cases z⟩
end My

namespace My
open PySem PySem.Spec L2
theorem x_intB0 {H : Hp} {Q : VK} (q : Q (.int 0) H) : rInt1 [.bl false] H Q := x_intB q
theorem x_intB1 {H : Hp} {Q : VK} (q : Q (.int 1) H) : rInt1 [.bl true] H Q := x_intB q
end My

namespace My
open PySem PySem.Spec L2 PyProof.Rows
/-! ### dicts, insert, index, reverse, max, min, while -/
theorem hu1 {k : Nat} {A : Around} (hr : Room k A) : A.units + 1 < cLine := Nat.lt_of_le_of_lt (by omega) (hu64 hr)
section
variable {X : Cx}
def rInsert1 : V → List V → Hp → VK → Prop := fun x vs H Q => ∃ (l : Addr) (xs : List V) (i : Int) (y : V), x = .ref l ∧ vs = [.int i, y] ∧ H l = some (.lst xs) ∧ xs.length < sizeLine ∧ 0 ≤ i ∧ i < 2 ^ 63 ∧ Q .non (upd H l (.lst (xs.take i.toNat ++ [y] ++ xs.drop i.toNat)))
theorem mt_insert1 : MtR X "list.insert" rInsert1 := mt_insert
/-- max of two ints, of a list of ints -/
def rMax1 (K : PySem.W.Frag) : List V → Hp → VK → Prop := fun xs H Q => (∃ i j, xs = [.int i, .int j] ∧ Q (.int (if j > i then j else i)) H) ∨ rMax K xs H Q
def rMin1 (K : PySem.W.Frag) : List V → Hp → VK → Prop := fun xs H Q => (∃ i j, xs = [.int i, .int j] ∧ Q (.int (if j < i then j else i)) H) ∨ rMin K xs H Q
theorem call_max1 (hc : X.calm = true) : CallR X (.builtin "max") (rMax1 X.K) := callOr (call_max2 hc) (cr_max hc)
theorem call_min1 (hc : X.calm = true) : CallR X (.builtin "min") (rMin1 X.K) := callOr (call_min2 hc) (cr_min hc)
/-- len of a dict -/
def rLenD1 : List V → Hp → VK → Prop := fun xs H Q => (∃ a kvs, xs = [V.ref a] ∧ H a = some (.dK kvs) ∧ Q (.int kvs.length) H) ∨ rLenT xs H Q
theorem call_lenD1 : CallR X (.builtin "len") rLenD1 := callOr call_lenD call_len_dT
end
section
variable {σ : L2.St} {H : Hp} {Q : VK} {K : PySem.W.Frag} {F : Hp → Prop} {cs : List (Addr × HO)} {a b d : Addr} {x y v : V} {td ty tv : TE} {kvs : List (Key × V)} {kts : List (List Key × V)} {k : Key} {kt : List Key} {n : Nat} {i j : Int} {xs : List V}
def DGetW (x y : V) (H2 : Hp) (Q : VK) : Prop := ∃ a v, x = .ref a ∧ DGet H2 a y (some v) ∧ Q v H2
theorem x_dget (h : td σ H fun x H1 => ty σ H1 fun y H2 => DGetW x y H2 Q) : tDGet td ty σ H Q := h
theorem x_dgI (h : H a = some (.dK kvs)) (e : valV kvs (.inl i) = some v) (q : Q v H) : DGetW (.ref a) (.int i) H Q := ⟨a, v, rfl, e ▸ DGet.k (k := .inl i) h, q⟩
theorem x_dgS {z : Str} (h : H a = some (.dK kvs)) (e : valV kvs (.inr z) = some v) (q : Q v H) : DGetW (.ref a) (.str z) H Q := ⟨a, v, rfl, e ▸ DGet.k (k := .inr z) h, q⟩
theorem x_dgT (h : H a = some (.dT kts)) (hb : H b = some (.tup (kt.map kV))) (e : valV kts kt = some v) (q : Q v H) : DGetW (.ref a) (.ref b) H Q := ⟨a, v, rfl, e ▸ DGet.t h hb, q⟩
def DInW (neg : Bool) (x y : V) (H2 : Hp) (Q : VK) : Prop := ∃ a o, x = .ref a ∧ DGet H2 a y o ∧ Q (.bl (if neg then !o.isSome else o.isSome)) H2
theorem x_din (h : ty σ H fun y H1 => td σ H1 fun x H2 => DInW false x y H2 Q) : tDIn ty td σ H Q := h
theorem x_dnin (h : ty σ H fun y H1 => td σ H1 fun x H2 => DInW true x y H2 Q) : tDNotIn ty td σ H Q := h
theorem x_diI {neg : Bool} (h : H a = some (.dK kvs)) (q : Q (.bl (if neg then !(valV kvs (.inl i)).isSome else (valV kvs (.inl i)).isSome)) H) : DInW neg (.ref a) (.int i) H Q := ⟨a, _, rfl, DGet.k (k := .inl i) h, q⟩
theorem x_diT {neg : Bool} (h : H a = some (.dT kts)) (hb : H b = some (.tup (kt.map kV))) (q : Q (.bl (if neg then !(valV kts kt).isSome else (valV kts kt).isSome)) H) : DInW neg (.ref a) (.ref b) H Q := ⟨a, _, rfl, DGet.t h hb, q⟩
def DPutW (x y v : V) (H3 : Hp) (R : Hp → Prop) : Prop := ∃ a H4, x = .ref a ∧ DPut H3 a y v H4 ∧ R H4
theorem x_dput {D : Ends} (h : tv σ H fun v H1 => td σ H1 fun x H2 => ty σ H2 fun y H3 => DPutW x y v H3 fun H4 => D.nx σ H4) : sDPut td ty tv D σ H := h
theorem x_dpI {R : Hp → Prop} (s : S F cs H) (hk : cs[n]? = some (a, .dK kvs)) (hl : kvs.length < 10000000) (q : ∀ H', S F (cs.set n (a, .dK (putK kvs (.inl i) v))) H' → R H') : DPutW (.ref a) (.int i) v H R :=
  ⟨a, _, rfl, DPut.k (k := .inl i) (s.at n hk) (big_sz hl), q _ (s.set n hk _)⟩
theorem x_dpT {R : Hp → Prop} (s : S F cs H) (hk : cs[n]? = some (a, .dT kts)) (hb : H b = some (.tup (kt.map kV))) (hl : kts.length < 10000000) (q : ∀ H', S F (cs.set n (a, .dT (putK kts kt v))) H' → R H') : DPutW (.ref a) (.ref b) v H R :=
  ⟨a, _, rfl, DPut.t (s.at n hk) hb (big_sz hl), q _ (s.set n hk _)⟩
theorem x_dnewK (s : S F cs H) (q : ∀ p H', S F ((p, .dK []) :: cs) H' → Q (.ref p) H') : tDNewK σ H Q := fun p hp => q p _ (s.alloc hp)
theorem x_dnewT (s : S F cs H) (q : ∀ p H', S F ((p, .dT []) :: cs) H' → Q (.ref p) H') : tDNewT σ H Q := fun p hp => q p _ (s.alloc hp)
theorem x_lenD (h : H a = some (.dK kvs)) (q : Q (.int kvs.length) H) : rLenD1 [.ref a] H Q := .inl ⟨a, kvs, rfl, h, q⟩
theorem x_lenDT (h : H a = some (.dT kts)) (q : Q (.int kts.length) H) : rLenD1 [.ref a] H Q := .inr ⟨a, kts, rfl, h, q⟩
theorem x_max (q : Q (.int (if j > i then j else i)) H) : rMax1 K [.int i, .int j] H Q := .inl ⟨i, j, rfl, q⟩
theorem x_min (q : Q (.int (if j < i then j else i)) H) : rMin1 K [.int i, .int j] H Q := .inl ⟨i, j, rfl, q⟩
theorem x_insert (s : S F cs H) (hk : cs[n]? = some (a, .lst xs)) (hl : xs.length < 10000000) (h0 : 0 ≤ i ∧ i < 2 ^ 62) (q : ∀ H', S F (cs.set n (a, .lst (xs.take i.toNat ++ [y] ++ xs.drop i.toNat))) H' → Q .non H') : rInsert1 (.ref a) [.int i, y] H Q :=
  ⟨a, xs, i, y, rfl, rfl, s.at n hk, big_sz hl, h0.1, by omega, q _ (s.set n hk _)⟩
theorem x_reverse (s : S F cs H) (hk : cs[n]? = some (a, .lst xs)) (q : ∀ H', S F (cs.set n (a, .lst xs.reverse)) H' → Q .non H') : rReverse (.ref a) [] H Q := ⟨a, xs, rfl, rfl, s.at n hk, q _ (s.set n hk _)⟩
/-- what isinstance asks of an own class, beside Cls -/
def insB (K : PySem.W.Frag) (C : Addr) : Bool := He.eqO (PySem.W.findIn K (.ref C) "__class__") (some (some (.builtin "object.__class__"))) && He.eqO (PySem.W.specialIn K (.builtin "object.__class__") "__get__") (some (some (.builtin "getset_descriptor.__get__"))) && decide (PySem.W.takesIn K (.builtin "object.__class__") = some true) && decide (PySem.W.mroIn K C (.type "object") = some true) && decide (PySem.W.kitOne K (.ref C) (.ref C) = some true)
theorem x_isiC {C dx : Addr} {fs : List (Str × V)} (c : Cls K C) (b : insB K C = true) (h : H a = some (.ins C dx fs)) (q : Q (.bl true) H) : rIsi1 K [.ref a, .ref C] H Q := by
  obtain ⟨b, b5⟩ := He.ba b
  obtain ⟨b, b4⟩ := He.ba b
  obtain ⟨b, b3⟩ := He.ba b
  obtain ⟨b1, b2⟩ := He.ba b
  exact .inl ⟨.ref a, .ref C, .ref C, .ref C, true, rfl, .own C, .base (TyOf.ins h c (He.eqO_ok b1) (He.eqO_ok b2) (of_decide_eq_true b3) (of_decide_eq_true b4)), of_decide_eq_true b5, q⟩
theorem x_bm0 {T : String} {r : V → List V → Hp → VK → Prop} {to : TE} (h : to σ H fun x H1 => tyV K T x H1 ∧ r x [] H1 Q) : tBM0 K T r to σ H Q := h
/-- a while: an invariant and a measure; the test is read at once -/
theorem x_while {c : TT} {tb : TS} {nx bk ct : L2.St → Hp → Prop} {rt : VK} (Pv : L2.St → Hp → Prop) (μ : L2.St → Hp → Nat) (h0 : Pv σ H) (mono : ∀ σ H Q Q', (∀ b H1, Q b H1 → Q' b H1) → c σ H Q → c σ H Q')
    (hs : ∀ σ H, Pv σ H → c σ H fun b H1 => if b = true then tb ⟨fun σ' H' => Pv σ' H' ∧ μ σ' H' < μ σ H, rt, nx, fun σ' H' => Pv σ' H' ∧ μ σ' H' < μ σ H⟩ σ H1 else nx σ H1) : tWhile c tb ⟨nx, rt, bk, ct⟩ σ H :=
  while_by (D := ⟨nx, rt, bk, ct⟩) Pv μ h0 hs mono
/-- a statement under the lock of a dict -/
theorem x_lock {t : TS} {nx bk ct : L2.St → Hp → Prop} {rt : VK} (s : S F cs H) (hk : cs[n]? = some (d, .dK kvs))
    (q : ∀ od H', S F (cs.set n (d, .frz od (.dK kvs))) H' → t ⟨fun σ' H' => H' d = some (.frz od (.dK kvs)) ∧ nx σ' (upd H' d (.dK kvs)), fun v H' => H' d = some (.frz od (.dK kvs)) ∧ rt v (upd H' d (.dK kvs)), fun σ' H' => H' d = some (.frz od (.dK kvs)) ∧ bk σ' (upd H' d (.dK kvs)), fun σ' H' => H' d = some (.frz od (.dK kvs)) ∧ ct σ' (upd H' d (.dK kvs))⟩ σ H') :
    tLock t ⟨nx, rt, bk, ct⟩ σ H := ⟨d, _, s.at n hk, trivial, fun od => q od _ (s.set n hk _)⟩
/-- back from the lock -/
theorem x_unlock {od : Obj} {R : Hp → Prop} (s : S F cs H) (hk : cs[n]? = some (d, .frz od (.dK kvs))) (q : ∀ H', S F (cs.set n (d, .dK kvs)) H' → R H') : H d = some (.frz od (.dK kvs)) ∧ R (upd H d (.dK kvs)) := ⟨s.at n hk, q _ (s.set n hk _)⟩
variable {nx : L2.St → Hp → Prop} {rt : VK} {g : TG} {tb : TS}
theorem x_iKeys {R : It → Hp → Prop} (h : td σ H fun x H1 => ∃ d o, x = .ref d ∧ ((∃ kvs, H1 d = some (.frz o (.dK kvs)) ∧ R (Itk d o kvs) H1) ∨ ∃ kvs, H1 d = some (.frz o (.dT kvs)) ∧ R (Itkt d o kvs) H1)) : iKeys td σ H R := h
theorem x_iItems {R : It → Hp → Prop} (h : td σ H fun x H1 => ∃ d o kvs, x = .ref d ∧ H1 d = some (.frz o (.dK kvs)) ∧ R (Iti d o kvs) H1) : iItems td σ H R := h
/-- for k in d -/
theorem x_forK {od : Obj} (hd : H d = some (.frz od (.dK kvs))) (Pv : Nat → L2.St → Hp → Prop) (h0 : Pv 0 σ H) (hG : ∀ i σ H, Pv i σ H → H d = some (.frz od (.dK kvs)))
    (hs : ∀ i k v σ H, kvs[i]? = some (k, v) → Pv i σ H → g (kV k) σ H fun σ2 H2 => tb ⟨Pv (i + 1), rt, nx, Pv (i + 1)⟩ σ2 H2) (hn : ∀ σ H, Pv kvs.length σ H → nx σ H) :
    ∃ d' o, V.ref d = .ref d' ∧ ((∃ kvs, H d' = some (.frz o (.dK kvs)) ∧ ForW (Itk d' o kvs) σ H nx rt g tb) ∨ ∃ kvs, H d' = some (.frz o (.dT kvs)) ∧ ForW (Itkt d' o kvs) σ H nx rt g tb) :=
  ⟨d, od, rfl, .inl ⟨kvs, hd, forW_it walk_keys Pv h0 (fun i σ H _ h => hG i σ H h) (fun i x σ H H' hi hp y => by
    obtain ⟨rfl, k, v, h1, rfl⟩ := y
    exact hs i k v σ H' h1 hp) hn⟩⟩
/-- for k, v in d.items() -/
theorem x_forKV {od : Obj} {gs : TGs} (hd : H d = some (.frz od (.dK kvs))) (Pv : Nat → L2.St → Hp → Prop) (h0 : Pv 0 σ H) (hG : ∀ i σ H, Pv i σ H → H d = some (.frz od (.dK kvs)))
    (hs : ∀ i k v σ H T H', kvs[i]? = some (k, v) → Pv i σ H → H T = none → H' = upd H T (.tup [kV k, v]) → gs [kV k, v] σ H' fun σ2 H2 => tb ⟨Pv (i + 1), rt, nx, Pv (i + 1)⟩ σ2 H2) (hn : ∀ σ H, Pv kvs.length σ H → nx σ H) :
    ∃ d' o kvs, V.ref d = .ref d' ∧ H d' = some (.frz o (.dK kvs)) ∧ ForW (Iti d' o kvs) σ H nx rt (gTup K 2 gs) tb :=
  ⟨d, od, kvs, rfl, hd, forW_it walk_items Pv h0 (fun i σ H _ h => hG i σ H h) (fun i x σ H H' hi hp y => by
    obtain ⟨T, x1, x2, rfl, h1, h2, h3, h4⟩ := y
    cases h2
    obtain ⟨⟨k, v⟩, h5, rfl⟩ := Option.map_eq_some_iff.mp h3
    have h4 : Option.map Prod.snd kvs[i]? = some x2 := h4
    rw [h5] at h4
    cases h4
    exact ⟨T, [kV k, v], rfl, sq_t upd_same, rfl, hs i k v σ H T _ h5 hp h1 rfl⟩) hn⟩
end
end My

namespace My
open PySem PySem.Spec L2
section
variable {σ : L2.St} {H : Hp} {Q : VK} {F : Hp → Prop} {cs : List (Addr × HO)} {ta tb : TE}
def RgLW (a b : Int) (H1 : Hp) (Q : VK) : Prop := RgOk a b ∧ ∀ q, H1 q = none → Q (.ref q) (upd H1 q (.lst (rgV a b)))
theorem x_lrg1 (h : ta σ H fun x H1 => ∃ n, x = .int n ∧ RgLW 0 n H1 Q) : tLstRg (tRg1 ta) σ H Q := h
theorem x_lrg2 (h : ta σ H fun x H1 => tb σ H1 fun y H2 => ∃ i j, x = .int i ∧ y = .int j ∧ RgLW i j H2 Q) : tLstRg (tRg2 ta tb) σ H Q := h
/-- list(range(n)) -/
theorem x_rgL {n : Nat} {j : Int} (hj : j = (n : Int)) (hn : n < 10000000) (s : S F cs H) (k : ∀ q H', S F ((q, .lst ((List.range n).map fun i => V.int (i : Nat))) :: cs) H' → Q (.ref q) H') : ∃ m, V.int j = .int m ∧ RgLW 0 m H Q := by
  subst hj
  refine ⟨_, rfl, .of_le (by omega) (by omega) (by omega) (by omega), fun q hq => k q _ ?_⟩
  have e : rgV 0 (n : Int) = (List.range n).map fun i => V.int (i : Nat) := by
    unfold rgV
    rw [Int.sub_zero, Int.toNat_natCast]
    exact List.map_congr_left fun i _ => by rw [Int.zero_add]
  rw [e]
  exact s.alloc hq
end
end My

namespace My
open PySem PySem.Spec L2
section
variable {σ : L2.St} {H : Hp} {Q : VK} {K : PySem.W.Frag} {F : Hp → Prop} {cs : List (Addr × HO)} {p q a b : Addr} {x y v : V} {xs ys zs : List V} {i j : Int} {bb : Bool}
variable {g : TG} {tt : TT} {te : TE} {vs : List Nat}
/-- list * number -/
theorem x_mulL (s : S F cs H) (h : (p, .lst xs) ∈ cs) (hl : xs.length ≤ 1000) (h0 : 0 ≤ i ∧ i ≤ 1000) (k : ∀ r H', S F ((r, .lst (List.replicate i.toNat xs).flatten) :: cs) H' → Q (.ref r) H') : rMul1 K (.ref p) (.int i) H Q := by
  refine .inr (.inl ⟨p, i, xs, rfl, rfl, s.has h, by omega, by omega, ?_, fun r hr => k r _ (s.alloc hr)⟩)
  exact Nat.le_trans (Nat.mul_le_mul hl (by omega : i.toNat ≤ 1000)) (by decide)
/-- tuple + tuple, the second one not empty -/
theorem x_catT (s : S F cs H) (h1 : ∀ B, F B → SqT K B a xs) (h2 : ∀ B, F B → SqT K B b ys) (hy : ys ≠ []) (hl : xs.length + ys.length ≤ 1000000) (k : ∀ r H', S (fun B => SqB false K B r (xs ++ ys) ∧ F B) cs H' → Q (.ref r) H') : rAdd1 K (.ref a) (.ref b) H Q := by
  have mF := s.mono
  refine .inr (.inr (.inr ⟨a, b, xs, ys, rfl, rfl, h1 _ s.fact, h2 _ s.fact, sz5 hl, fun e => ?_, fun _ e => absurd e hy, fun _ _ r hr => k r _ (s.alloc hr).freezeT⟩))
  subst e
  exact k b H (s.imp fun B f => ⟨h2 B f, f⟩)
/-- l.extend(list) -/
theorem x_extend {n m : Nat} (s : S F cs H) (hn : cs[n]? = some (a, .lst xs)) (hm : cs[m]? = some (b, .lst ys)) (hl : xs.length + ys.length ≤ 1000000) (k : ∀ H', S F (cs.set n (a, .lst (xs ++ ys))) H' → Q .non H') : rExtend (.ref a) [.ref b] H Q :=
  ⟨a, b, xs, ys, rfl, rfl, s.at n hn, s.at m hm, sz5 hl, k _ (s.set n hn _)⟩
theorem dpAll_intE : ∀ {xs : List V} {ns : List Int}, DpAll K H xs (ns.map PyData.int) → xs = ns.map V.int
  | _, [], .nil => rfl
  | _, n :: ns, .cons h k => by
    cases h
    rw [dpAll_intE k]
    rfl
theorem sub_data {α : Type} {P : Nat → α → Prop} {ds : List α} {d : α} {i : Nat} (hl : ds.length = i) (h : ∀ (j : Nat) d, ds[j]? = some d → P j d) (hd : P i d) : ∀ (j : Nat) e, (ds ++ [d])[j]? = some e → P j e := by
  intro j e he
  rcases Nat.lt_or_ge j ds.length with z | z
  · rw [List.getElem?_append_left z] at he
    exact h j e he
  · have h2 := (List.getElem?_eq_some_iff.mp he).1
    rw [List.length_append, List.length_singleton] at h2
    obtain rfl : j = ds.length := by omega
    rw [List.getElem?_append_right (Nat.le_refl _), Nat.sub_self] at he
    cases he
    rw [hl]
    exact hd
/-- a comprehension over range(n) that makes data, the cells by a parameter -/
theorem x_lcPR {α : Type} {cf : α → List (Addr × HO)} (a0 : α) (P : Nat → PyData → Prop) {n : Nat} (hj : j = (n : Int)) (hn : n < 10000000) (s : S F (cf a0) H)
    (hs : ∀ D acc ds a i H (Put : VK) (Skip : Hp → Prop), i < n → ds.length = i → (∀ (j : Nat) d, ds[j]? = some d → P j d) → (∀ y d a' H', P i d → S (fun B => Dp K B y d ∧ DpAll K B acc ds ∧ F B) ((D, .lst acc) :: cf a') H' → Put y H') → S (fun B => DpAll K B acc ds ∧ F B) ((D, .lst acc) :: cf a) H →
      g (.int (i : Nat)) (wipe σ vs) H fun σ2 H2 => wipe σ2 vs = wipe σ vs ∧ tt σ2 H2 fun b H3 => if b = true then te σ2 H3 Put else Skip H3)
    (hd : ∀ D acc ds a H, ds.length = n → (∀ (j : Nat) d, ds[j]? = some d → P j d) → S (fun B => DpAll K B acc ds ∧ F B) ((D, .lst acc) :: cf a) H → Q (.ref D) H) :
    ∃ k : Int, [V.int j] = [.int k] ∧ -(2 ^ 62) ≤ k ∧ k < 2 ^ 62 ∧ LcW (Itr 0 k.toNat) σ H Q g tt te vs := by
  have mF := s.mono
  refine x_lcR1 hj (Nat.lt_of_lt_of_le hn (by decide)) (fun D i H => ∃ acc ds a, ds.length = i ∧ (∀ (j : Nat) d, ds[j]? = some d → P j d) ∧ S (fun B => DpAll K B acc ds ∧ F B) ((D, .lst acc) :: cf a) H) (fun D hD => ⟨[], [], a0, rfl, fun j d h => by simp at h, (s.imp fun B f => ⟨.nil, f⟩).alloc hD⟩) ?_ ?_
  · rintro D i H hi ⟨acc, ds, a, hl, hP, s⟩
    refine hs D acc ds a i H _ _ hi hl hP ?_ s
    intro y d a' H4 hd s
    have hal := dpAll_len s.fact.2.1
    refine ⟨acc, s.at 0 rfl, big_sz (by omega), acc ++ [y], ds ++ [d], a', by rw [List.length_append, hl]; rfl, sub_data hl hP hd, ?_⟩
    exact (s.imp (G := fun B => DpAll K B (acc ++ [y]) (ds ++ [d]) ∧ F B) fun B h => ⟨dpAll_snoc h.2.1 h.1, h.2.2⟩).set 0 rfl _
  · rintro D H ⟨acc, ds, a, hl, hP, s⟩
    exact hd D acc ds a H hl hP s
/-- the same over a list or a tuple -/
theorem x_lcPB {α : Type} {cf : α → List (Addr × HO)} (a0 : α) (P : Nat → PyData → Prop) {n : Nat} (hq : ∀ B, F B → SqB bb K B p xs) (hxn : xs.length = n) (hn : n < 10000000) (s : S F (cf a0) H)
    (hs : ∀ D acc ds a i x H (Put : VK) (Skip : Hp → Prop), xs[i]? = some x → i < n → ds.length = i → (∀ (j : Nat) d, ds[j]? = some d → P j d) → (∀ y d a' H', P i d → S (fun B => Dp K B y d ∧ DpAll K B acc ds ∧ F B) ((D, .lst acc) :: cf a') H' → Put y H') → S (fun B => DpAll K B acc ds ∧ F B) ((D, .lst acc) :: cf a) H →
      g x (wipe σ vs) H fun σ2 H2 => wipe σ2 vs = wipe σ vs ∧ tt σ2 H2 fun b H3 => if b = true then te σ2 H3 Put else Skip H3)
    (hd : ∀ D acc ds a H, ds.length = n → (∀ (j : Nat) d, ds[j]? = some d → P j d) → S (fun B => DpAll K B acc ds ∧ F B) ((D, .lst acc) :: cf a) H → Q (.ref D) H) :
    ∃ a, V.ref p = .ref a ∧ (((∃ xs, SqL K H a xs) ∧ LcW (Itl K a) σ H Q g tt te vs) ∨ ((∃ xs, SqT K H a xs) ∧ LcW (Itt K a) σ H Q g tt te vs)) := by
  have mF := s.mono
  subst hxn
  refine x_lcB (hq _ s.fact) (fun D i H => ∃ acc ds a, ds.length = i ∧ (∀ (j : Nat) d, ds[j]? = some d → P j d) ∧ S (fun B => DpAll K B acc ds ∧ F B) ((D, .lst acc) :: cf a) H) (fun D hD => ⟨[], [], a0, rfl, fun j d h => by simp at h, (s.imp fun B f => ⟨.nil, f⟩).alloc hD⟩) ?_ ?_ ?_
  · rintro D i H ⟨acc, ds, a, hl, hP, s⟩
    exact hq _ s.fact.2
  · rintro D i x H hx ⟨acc, ds, a, hl, hP, s⟩
    have hi := (List.getElem?_eq_some_iff.mp hx).1
    refine hs D acc ds a i x H _ _ hx hi hl hP ?_ s
    intro y d a' H4 hd s
    have hal := dpAll_len s.fact.2.1
    refine ⟨acc, s.at 0 rfl, big_sz (by omega), acc ++ [y], ds ++ [d], a', by rw [List.length_append, hl]; rfl, sub_data hl hP hd, ?_⟩
    exact (s.imp (G := fun B => DpAll K B (acc ++ [y]) (ds ++ [d]) ∧ F B) fun B h => ⟨dpAll_snoc h.2.1 h.1, h.2.2⟩).set 0 rfl _
  · rintro D H ⟨acc, ds, a, hl, hP, s⟩
    exact hd D acc ds a H hl hP s
end
end My

namespace My
open PySem PySem.Spec L2
theorem dpAll_app {K : PySem.W.Frag} {H : Hp} : ∀ {xs ys : List V} {ds es : List PyData}, DpAll K H xs ds → DpAll K H ys es → DpAll K H (xs ++ ys) (ds ++ es)
  | _, _, _, _, .nil, h => h
  | _, _, _, _, .cons a b, h => .cons a (dpAll_app b h)
theorem dpAll_of {K : PySem.W.Frag} {H : Hp} : ∀ {ds : List PyData} {ys : List V}, ys.length = ds.length → (∀ (i : Nat) d, ds[i]? = some d → ∃ y, ys[i]? = some y ∧ Dp K H y d) → DpAll K H ys ds
  | [], [], _, _ => .nil
  | d :: ds, [], h, _ => by cases h
  | [], y :: ys, h, _ => by cases h
  | d :: ds, y :: ys, h, k => by
    obtain ⟨y', h1, h2⟩ := k 0 d rfl
    cases h1
    exact .cons h2 (dpAll_of (by simpa using h) fun i e he => k (i + 1) e (by simpa using he))
theorem dpAll_map {K : PySem.W.Frag} {B : Hp} {α : Type} {f : α → PyData} : ∀ {ys : List V} {l : List α}, DpAll K B ys (l.map f) → ∀ {i : Nat} {a : α}, l[i]? = some a → ∃ y, ys[i]? = some y ∧ Dp K B y (f a) := by
  intro ys l h i a hi
  exact dpAll_get h (by rw [List.getElem?_map, hi]; rfl)
end My

namespace My
open PySem PySem.Spec L2
theorem shaped_tupI (ns : List Int) : SeqAt.shaped (.tuple (ns.map PyData.int)) = true := by
  simp [SeqAt.shaped, PyData.canLay0, PyData.depth, PySem.W.ke_canLayAll0, PySem.W.ke_depthAll]
/-- two tuples of the same ints are not unlike -/
theorem x_neTupI {K : PySem.W.Frag} {H : Hp} {Q : VK} {p q : Addr} {ns : List Int} (hp : SqT K H p (ns.map V.int)) (hq : SqT K H q (ns.map V.int)) (k : Q (.bl false) H) : rNe1 K (.ref p) (.ref q) H Q := by
  refine .inr ⟨.tuple (ns.map PyData.int), .tuple (ns.map PyData.int), .tup hp (dpAll_ints ns), .tup hq (dpAll_ints ns), shaped_tupI ns, shaped_tupI ns, ?_⟩
  rw [SeqAt.eqv_refl _ (SeqAt.canLay_of_shaped (shaped_tupI ns))]
  exact k
end My

namespace My
open PySem PySem.Spec L2
theorem ds_choose {α : Type} {P : Nat → α → Prop} {f : α → PyData} : ∀ {ds : List PyData}, (∀ (j : Nat) d, ds[j]? = some d → ∃ n, d = f n ∧ P j n) → ∃ ns : List α, ds = ns.map f ∧ ∀ (j : Nat) n, ns[j]? = some n → P j n := by
  intro ds
  induction ds generalizing P with
  | nil => exact fun _ => ⟨[], rfl, fun j n h => by simp at h⟩
  | cons d ds ih =>
    intro h
    obtain ⟨n, rfl, hn⟩ := h 0 d rfl
    obtain ⟨ns, rfl, hns⟩ := ih (P := fun j => P (j + 1)) fun j e he => h (j + 1) e (by simpa using he)
    refine ⟨n :: ns, rfl, fun j m hm => ?_⟩
    cases j with
    | zero => cases hm; exact hn
    | succ j => exact hns j m (by simpa using hm)
theorem ds_all {α : Type} {P : α → Prop} {f : α → PyData} {ds : List PyData} (h : ∀ (j : Nat) d, ds[j]? = some d → ∃ n, d = f n ∧ P n) : ∃ ns : List α, ds = ns.map f ∧ ∀ n ∈ ns, P n := by
  obtain ⟨ns, h1, h2⟩ := ds_choose (P := fun _ => P) h
  refine ⟨ns, h1, fun n hn => ?_⟩
  obtain ⟨j, hj⟩ := List.mem_iff_getElem?.mp hn
  exact h2 j n hj
end My

namespace My
open PySem PySem.Spec L2 PyProof.Rows
/-! ### a display of one pair, its key a tuple -/
def tDispT1 (tk tv : TE) : TE := fun σ H Q => ∀ p, H p = none → tk σ (upd H p (.dT [])) fun x H1 => tv σ H1 fun y H2 => H2 p = some (.dT []) ∧ ∃ (b : Addr) (k : List Key), x = .ref b ∧ H2 b = some (.tup (k.map kV)) ∧ Q (.ref p) (upd H2 p (.dT [(k, y)]))
theorem pe_dispT1 {X : Cx} {pos : Pos} {kx vx : Expr} {tk tv : TE} (hu : X.A.units < cLine) (hk : PE X kx tk) (hv : PE X vx tv) : PE X (.Dict [some kx] [vx] pos) (tDispT1 tk tv) := by
  refine ⟨fun pins s σ H Q I q => ?_⟩
  have hn := I.hok.fresh (Nat.le_refl s.heap.objs.size)
  have I1 := I.laid (a := s.heap.objs.size) (o := .dT []) (h' := s.heap.push { cls := .type "dict", data := .dict #[] }) (t' := s.toks) (fun _ _ q => Heap.get?_push_of_some _ q) (Nat.le_refl _) (dt_empty s.heap I.big)
  have hl : (pairTrees [some kx] [vx] X.env pos).length = 1 := pairTrees_length [some kx] [vx] X.env pos rfl rfl
  rw [arm_eval_Dict, zip_pairTrees [some kx] [vx] X.env pos rfl rfl, dictDisplay_pairs (pairTrees [some kx] [vx] X.env pos) (by intro z; rw [z] at hl; cases hl) (by rw [hl]; decide)]
  refine wpAny_bind (wpAny_standAt (wpAny_bind (PySem.wpAny_subDictH (knd := tupleKind (mixKind X.prog X.w)) hu (by rw [hl]; decide) ?_)))
  refine pairTrees_cons_walk (thn (hk.run pins _ σ _ _ I1 (q _ hn)) fun u s1 ⟨x, H1, I2, rx, q1⟩ => thn (hv.run pins s1 σ H1 _ I2 q1) fun w2 s2 ⟨y, H2, I3, ry, e, b, k, ex, eb, q2⟩ => pairTrees_nil_walk ?_)
  subst ex
  cases rx
  obtain ⟨z, hd, xs0, rel, dd⟩ := dt_of I3.hok e
  cases rel
  refine ⟨[(k, b, w2)], ⟨rfl, rfl, key_of I3.hok eb, trivial⟩, dd, fun h' tk dd' hs => wpAny_pure ?_⟩
  obtain ⟨o, es, ep, hq, h2, h3, h4, _, h5⟩ := dd'
  have eb' : upd H2 s.heap.objs.size (.dT [(k, y)]) b = some (.tup (k.map kV)) := by
    rw [upd_ne (ne_of eb e (fun z => nomatch z))]
    exact eb
  have ok : ObjOk X.prog X.w (upd H2 s.heap.objs.size (.dT [(k, y)])) h' s.heap.objs.size (.dT [(k, y)]) := ⟨by show 1 ≤ sizeLine; decide, hd, [(k, b, w2)], .cons ⟨rfl, eb', ry⟩ .nil, o, es, ep, hq, h2, h3, h4, h5⟩
  exact ⟨.ref s.heap.objs.size, _, d_write I3 (by rw [e]; exact True.intro) hs ⟨o, hq⟩ ok, rfl, q2⟩
end My

namespace My
open PySem PySem.Spec L2
/-! ### classmethods -/
def crdB (K : PySem.W.Frag) (C : Addr) : Bool := PySem.W.readsIn K C (.type "type") && decide (PySem.W.specialIn K (.ref C) "__getattribute__" = some (some (.builtin "type.__getattribute__")))
theorem crdB_ok {K : PySem.W.Frag} {C : Addr} (h : crdB K C = true) : ClX.CRead K C (.type "type") := by
  obtain ⟨h1, h2⟩ := He.ba h
  exact ⟨h1, of_decide_eq_true h2⟩
def ccvB (K : PySem.W.Frag) (C : Addr) (f : Str) (n : Int) : Bool := match PySem.W.findCls K (.ref C) (.type "type") f with
  | some (.val (.int i _)) => decide (i = n)
  | _ => false
theorem ccvB_ok {K : PySem.W.Frag} {C : Addr} {f : Str} {n : Int} (h : ccvB K C f n = true) : ∃ u, ClX.CVal K C (.type "type") f (.int n) u := by
  unfold ccvB at h
  split at h
  · rename_i i t e
    have := of_decide_eq_true h
    subst this
    exact ⟨_, e, ⟨t, rfl⟩⟩
  · cases h
def cmB (K : PySem.W.Frag) (C : Addr) (m : Str) : Bool := He5.wrapB K C "classmethod" "classmethod.__get__" m && PySem.W.fnIn K (He5.wf K C "classmethod" m)
theorem cmB_ok {K : PySem.W.Frag} {C : Addr} {m : Str} (h : cmB K C m = true) : ClX.CMet K C (.type "type") m (He.ma K C m) (He5.wf K C "classmethod" m) := by
  obtain ⟨h1, h2⟩ := He.ba h
  exact He5.cmet_of h1 h2
/-- a class that a local name holds, called -/
def tMakeL (i : Nat) (C : Addr) (sp : Sp) (dvs : List V) (E : XK) (t : TA) : TE := fun σ H Q => σ[i]? = some (some (.ref C)) ∧ tMake C sp dvs E t σ H Q
section
variable {X : Cx} {k n : Nat} {sp : Sp} {E : XK} {C : Addr} {x y m : Str} {p pos apos : Pos} {e o : Expr} {es : List Expr} {t tk : TA} {ta : TE} {ps ks : List Str} {ds : List V} {i : Nat}
theorem pe_makeL (D : MakeOk X.prog X.w X.K X.mg X.base x k ps ds sp) (hr : Room (k + 1) X.A) (hN : X.N[i]? = some y) (hv : Vis X.env.scope y) (hx : Passes (L2.CX X.prog X.w) X E) (ha : PA X (e :: es) t)
    (hdb : (y == ("__debug__" : Str)) = false := by decide) (hcd : (y == ("__classdict__" : Str)) = false := by decide) (he : starEach (e :: es) X.env = (false, eval e X.env) :: starEach es X.env := by rfl) (hpl : (backTo pos (starEach es X.env)).any (·.1) = false := by rfl) :
    PE X (.Call (.Name y p) (e :: es) [] pos) (tMakeL i (He.ga X.K x) sp ds E t) := by
  obtain ⟨fd, dsv, M, hm, F, hb, hd⟩ := D.ex
  refine ⟨fun pins s σ H Q I h => ?_⟩
  obtain ⟨hs, ht⟩ := h
  refine wpAny_Call_Name_kw (thn ((pe_var (pos := p) hN hv hdb hcd).run pins s σ H (fun v H1 => v = .ref (He.ga X.K x) ∧ H1 = H) I ⟨.ref (He.ga X.K x), hs, rfl, rfl⟩) fun u s1 ⟨v, H1, I1, r1, q1⟩ => ?_)
  obtain ⟨rfl, rfl⟩ := q1
  cases r1
  exact PySem.W.callWith_K (h₀ := X.base) I.ok.mod.kin M.kp (thn (ha.run pos pins s1 σ _ _ I1 ht) fun us s2 ⟨vs, H2, I2, r, q⟩ => ⟨I2.kIn, run_make M F hr hb hd hx I2 r q⟩) he hpl
structure CmOk (P : Program) (w : World) (K : PySem.W.Frag) (mg : Str → Option Value) (base : Heap) (C : Addr) (m : Str) (k : Nat) (sp : Sp) : Prop where
  ex : ClX.CRead K C (.type "type") ∧ ClX.CMet K C (.type "type") m (He.ma K C m) (He5.wf K C "classmethod" m) ∧ FnR P w K mg base (L2.CX P w) k (He5.wf K C "classmethod" m) sp
theorem pe_cmM {pl : Sem Bool} (D : CmOk X.prog X.w X.K X.mg X.base C m k sp) (hr : Room k X.A) (hx : Passes (L2.CX X.prog X.w) X E) (he : PE X o ta) (ha : PA X (e :: es) t)
    (hst : starEach (e :: es) X.env = (false, eval e X.env) :: starEach es X.env := by rfl) (hpl : (backTo pos (starEach es X.env)).any (·.1) = false := by rfl)
    (ht : eval (.Call (.Attribute o m apos) (e :: es) [] pos) X.env = (do
      let ov ← eval o X.env
      standAt apos.atName
      let (f, first) ← holding [ov] (getMethod ov m pl)
      callWith pos f first (backTo pos (starEach (e :: es) X.env)) (backToKw pos (keywordEach [] X.env))) := by rfl) :
    PE X (.Call (.Attribute o m apos) (e :: es) [] pos) (ClX.tCMeth C sp E ta t) := by
  obtain ⟨r, c, F⟩ := D.ex
  exact ClX.pe_cmeth he r c F hr hx ha hst hpl ht
end
section
variable {σ : L2.St} {H : Hp} {Q : VK} {K : PySem.W.Frag} {C : Addr} {sp : Sp} {E : XK} {ds : List V} {t : TA} {ta : TE} {i : Nat} {f : Str} {v : V} {l : Addr} {xs : List V}
theorem x_makeL (hs : σ[i]? = some (some (.ref C))) (h : t σ H fun vs H1 => MakeW C sp E (fun s => s ++ (vs ++ ds)) H1 Q) : tMakeL i C sp ds E t σ H Q := ⟨hs, h⟩
theorem x_cmeth (h : ta σ H fun x H1 => x = .ref C ∧ t σ H1 fun vs H2 => sp (.ref C :: vs) H2 Q E) : ClX.tCMeth C sp E ta t σ H Q := h
def CValW (K : PySem.W.Frag) (f : Str) (x : V) (H1 : Hp) (Q : VK) : Prop := ∃ C mc v u, x = .ref C ∧ ClX.CRead K C mc ∧ ClX.CVal K C mc f v u ∧ Q v H1
theorem x_cval (h : ta σ H fun x H1 => CValW K f x H1 Q) : ClX.tCVal K ta f σ H Q := h
theorem x_cv (r : ClX.CRead K C (.type "type")) (c : ∃ u, ClX.CVal K C (.type "type") f v u) (q : Q v H) : CValW K f (.ref C) H Q := by
  obtain ⟨u, c⟩ := c
  exact ⟨C, _, v, u, rfl, r, c, q⟩
theorem x_mulT (h : SqT K H l xs) (hne : xs ≠ []) (hk : 1 ≤ i ∧ i ≤ 1000) (hl : xs.length ≤ 1000) (q1 : i = 1 → Q (.ref l) H) (q2 : 2 ≤ i → ∀ p, H p = none → Q (.ref p) (upd H p (.tup (List.replicate i xs).flatten))) : rMul1 K (.ref l) (.int (i : Nat)) H Q := by
  by_cases h1 : i = 1
  · subst h1
    exact .inr (.inr (.inr (.inr ⟨l, xs, rfl, rfl, h, q1 rfl⟩)))
  · refine .inr (.inr (.inl ⟨l, _, xs, rfl, rfl, h, hne, by omega, by omega, hl, ?_⟩))
    rw [Int.toNat_natCast]
    exact q2 (by omega)
end
end My

namespace My
open PySem PySem.Spec L2
theorem eqv_ints (ns ms : List Int) : PyData.eqv (.list (ns.map PyData.int)) (.list (ms.map PyData.int)) = decide (ns = ms) := by
  rw [← SeqAt.same_eq_eqv _ _ (SeqAt.noMix_of_shape (.list .int) rfl _ _ (PyProof.Rows.list_map_has fun _ => rfl) (PyProof.Rows.list_map_has fun _ => rfl)), PySem.W.ke_same]
section
variable {σ : L2.St} {H : Hp} {Q : VK} {K : PySem.W.Frag} {F : Hp → Prop} {cs : List (Addr × HO)} {p q a b : Addr} {x y v : V} {xs ys zs : List V} {i j : Int} {bb : Bool} {ns ms : List Int}
theorem x_eqInts (hp : SqL K H p (ns.map V.int)) (hq : SqL K H q (ms.map V.int)) (k : Q (.bl (decide (ns = ms))) H) : rEq1 K (.ref p) (.ref q) H Q := by
  refine .inr ⟨.list (ns.map PyData.int), .list (ms.map PyData.int), dp_ints hp, dp_ints hq, PySem.W.ke_shaped_ints ns, PySem.W.ke_shaped_ints ms, ?_⟩
  rw [eqv_ints]
  exact k
theorem x_neIntsD (hp : SqL K H p (ns.map V.int)) (hq : SqL K H q (ms.map V.int)) (k : Q (.bl (!decide (ns = ms))) H) : rNe1 K (.ref p) (.ref q) H Q := by
  refine .inr ⟨.list (ns.map PyData.int), .list (ms.map PyData.int), dp_ints hp, dp_ints hq, PySem.W.ke_shaped_ints ns, PySem.W.ke_shaped_ints ms, ?_⟩
  rw [eqv_ints]
  exact k
/-- tuple + tuple -/
theorem x_catTA (s : S F cs H) (h1 : ∀ B, F B → SqT K B a xs) (h2 : ∀ B, F B → SqT K B b ys) (hl : xs.length + ys.length ≤ 1000000) (k : ∀ r H', S (fun B => SqB false K B r (xs ++ ys) ∧ F B) cs H' → Q (.ref r) H') : rAdd1 K (.ref a) (.ref b) H Q := by
  have mF := s.mono
  refine .inr (.inr (.inr ⟨a, b, xs, ys, rfl, rfl, h1 _ s.fact, h2 _ s.fact, sz5 hl, fun e => ?_, fun _ e => ?_, fun _ _ r hr => k r _ (s.alloc hr).freezeT⟩))
  · subst e
    exact k b H (s.imp fun B f => ⟨h2 B f, f⟩)
  · subst e
    exact k a H (s.imp fun B f => ⟨by rw [List.append_nil]; exact h1 B f, f⟩)
theorem cutV_all {lo hi : Option Int} (h : HT.sIx xs.length 0 lo = 0 ∧ HT.sIx xs.length xs.length hi = xs.length) : cutV xs lo hi = xs := by
  unfold cutV
  rw [h.1, h.2, List.drop_zero, Nat.sub_zero, List.take_length]
/-- a tuple's slice -/
theorem x_slA {lo hi : Option Int} (s : S F cs H) (h1 : ∀ B, F B → SqT K B a xs) (k : ∀ r H', S (fun B => SqB false K B r (cutV xs lo hi) ∧ F B) cs H' → Q (.ref r) H') : rSlA K (.ref a) lo hi H Q := by
  have mF := s.mono
  refine ⟨a, xs, rfl, h1 _ s.fact, fun e => k a H (s.imp fun B f => ⟨by rw [cutV_all e]; exact h1 B f, f⟩), fun _ r hr => k r _ (s.alloc hr).freezeT⟩
theorem cutV_take (n : Nat) : cutV xs none (some (n : Int)) = xs.take n := by
  unfold cutV
  rw [HT.sIx_none, HT.sIx_nat, List.drop_zero, Nat.sub_zero]
  apply List.ext_getElem?
  intro i
  rw [List.getElem?_take, List.getElem?_take]
  by_cases h : i < n
  · rw [if_pos h]
    by_cases h2 : i < xs.length
    · rw [if_pos (by omega)]
    · rw [List.getElem?_eq_none_iff.mpr (by omega)]
      simp
  · rw [if_neg h, if_neg (by omega)]
theorem cutV_drop (n : Nat) : cutV xs (some (n : Int)) none = xs.drop n := by
  unfold cutV
  rw [HT.sIx_none, HT.sIx_nat]
  by_cases h : n ≤ xs.length
  · rw [Nat.min_eq_left h, List.take_of_length_le (by rw [List.length_drop]; exact Nat.le_refl _)]
  · rw [Nat.min_eq_right (by omega), Nat.sub_self, List.take_zero, List.drop_eq_nil_of_le (by omega)]
theorem dpAll_set {n : Nat} {d : PyData} {ds : List PyData} (h : DpAll K H xs ds) (hd : Dp K H v d) : DpAll K H (xs.set n v) (ds.set n d) := by
  refine dpAll_of (by rw [List.length_set, List.length_set]; exact dpAll_len h) fun i e he => ?_
  by_cases hi : n = i
  · subst hi
    have h2 := (List.getElem?_eq_some_iff.mp he).1
    rw [List.length_set] at h2
    rw [List.getElem?_set_self h2] at he
    cases he
    exact ⟨v, List.getElem?_set_self (by rw [dpAll_len h]; exact h2), hd⟩
  · rw [List.getElem?_set_ne hi] at he ⊢
    exact dpAll_get h he
theorem set_cut {α : Type} {l : List α} {n : Nat} {a : α} (h : n < l.length) : l.take n ++ [a] ++ l.drop (n + 1) = l.set n a := by
  rw [List.set_eq_take_append_cons_drop, if_pos h, List.append_assoc]
  rfl
theorem x_maxI (q : ∀ k : Int, (k = i ∨ k = j) → i ≤ k → j ≤ k → Q (.int k) H) : rMax1 K [.int i, .int j] H Q := by
  refine .inl ⟨i, j, rfl, ?_⟩
  split
  · exact q j (.inr rfl) (by omega) (Int.le_refl _)
  · exact q i (.inl rfl) (Int.le_refl _) (by omega)
theorem x_minI (q : ∀ k : Int, (k = i ∨ k = j) → k ≤ i → k ≤ j → Q (.int k) H) : rMin1 K [.int i, .int j] H Q := by
  refine .inl ⟨i, j, rfl, ?_⟩
  split
  · exact q j (.inr rfl) (by omega) (Int.le_refl _)
  · exact q i (.inl rfl) (Int.le_refl _) (by omega)
theorem fm_filter {β : Type} (p : Nat → Prop) [DecidablePred p] (g : Nat → β) : ∀ l : List Nat, l.filterMap (fun t => if p t then some (g t) else none) = (l.filter fun t => decide (p t)).map g
  | [] => rfl
  | a :: l => by
    by_cases h : p a
    · rw [List.filterMap_cons, if_pos h, List.filter_cons, if_pos (decide_eq_true h), List.map_cons, fm_filter p g l]
    · rw [List.filterMap_cons, if_neg h, List.filter_cons, if_neg (by rw [decide_eq_false h]; exact Bool.false_ne_true), fm_filter p g l]
/-- data of a tuple of a text and something -/
theorem dp_tagged {d : PyData} {w : Str} {t : Addr} (h : Dp K H (.ref t) (.tuple [.str w, d])) : ∃ u, SqT K H t [.str w, u] ∧ Dp K H u d := by
  cases h with | tup h k => ?_
  cases k with | cons h1 k => ?_
  cases k with | cons h2 k => ?_
  cases k
  cases h1
  exact ⟨_, h, h2⟩
theorem dp_ref_t {ds : List PyData} (h : Dp K H v (.tuple ds)) : ∃ t xs, v = .ref t ∧ SqT K H t xs ∧ DpAll K H xs ds := by
  cases h with | tup h k => exact ⟨_, _, rfl, h, k⟩
end
end My

namespace My
open PySem PySem.Spec L2
theorem dpAll_take {K : PySem.W.Frag} {H : Hp} : ∀ (n : Nat) {xs : List V} {ds : List PyData}, DpAll K H xs ds → DpAll K H (xs.take n) (ds.take n)
  | 0, _, _, _ => .nil
  | n + 1, _, _, .nil => .nil
  | n + 1, _, _, .cons a b => .cons a (dpAll_take n b)
end My

namespace My
open PySem PySem.Spec L2 PyProof.Rows
/-! ### a dict comprehension whose keys are tuples -/
theorem d_dictSetT {X : Cx} {pins : List (Addr × Obj)} {σ : L2.St} {H : Hp} {s : Shared} {E : Value → Shared → Prop} {D b : Addr} {kvs : List (List Key × V)} {k : List Key} {v : V} {r : Value} {Q : Unit → Shared → Prop} (hu : X.A.units < cLine) (I : L2.Inv X pins σ H s) (hD : H D = some (.dT kvs)) (hz : kvs.length < sizeLine)
    (eb : H b = some (.tup (k.map kV))) (rv : L2.RelV v r) (h : ∀ s', L2.Inv X pins σ (upd H D (.dT (putK kvs k v))) s' → Q () s') : wpAny (model X.prog X.w) X.A (dictSet D (.ref b) r) Q E s := by
  obtain ⟨z, hd, xs, rel, dd⟩ := dt_of I.hok hD
  have hzv : xs.length ≤ sizeLine := by rw [← Paired.length rel]; exact z
  have hl : (putK kvs k v).length ≤ sizeLine := by have := length_putK kvs k v; omega
  refine wpAny_dictSet_heap (hsz := hzv) (knd := tupleKind (mixKind X.prog X.w)) hu (key_of I.hok eb) dd fun h' dd' hs => h _ ?_
  obtain ⟨q, es, ep, hq, h2, h3, h4, _, h5⟩ := dd'
  have ok : ObjOk X.prog X.w (upd H D (.dT (putK kvs k v))) h' D (.dT (putK kvs k v)) := by
    refine ⟨hl, hd, _, (rel.put k eb rv).keeps fun c ys ec => ?_, q, es, ep, hq, h2, h3, h4, h5⟩
    rw [upd_ne (ne_of ec hD (fun z => nomatch z))]
    exact ec
  exact d_write I (by rw [hD]; exact True.intro) hs ⟨q, hq⟩ ok
def tDcT (wi : TI) (g : TG) (tt : TT) (tk tv : TE) (vs : List Nat) : TE := fun σ H Q => wi σ H fun J H1 => ∀ D, H1 D = none → ∃ W : Nat → Nat → Hp → Prop, (∃ m, W 0 m (upd H1 D (.dT []))) ∧ ∀ i m H, W i m H →
  (J.stop i H ∧ Q (.ref D) H) ∨ (J.go i H ∧ ∃ Nx : Hp → Prop, (∀ H', Nx H' → ∃ m', m' < m ∧ W (i + 1) m' H') ∧ ∀ x H', J.yld i H x H' → g x (wipe σ vs) H' fun σ2 H2 => wipe σ2 vs = wipe σ vs ∧ tt σ2 H2 fun b H3 =>
    if b = true then tk σ2 H3 fun y H4 => tv σ2 H4 fun z H5 => ∃ (c : Addr) (kvs : List (List Key × V)) (k : List Key), y = .ref c ∧ H5 c = some (.tup (k.map kV)) ∧ H5 D = some (.dT kvs) ∧ kvs.length < sizeLine ∧ Nx (upd H5 D (.dT (putK kvs k z))) else Nx H3)
end My

namespace My
open PySem PySem.Spec L2 PyProof.Rows
/-- what a store of a pair must be, for a comprehension's new dict -/
structure DKind where
  u0 : HO
  put : Hp → Addr → V → V → Hp → Prop
  new : ∀ (P : Program) (w : World) (H : Hp) (h : Heap), sysModules < h.objs.size → ObjOk P w H (h.push { cls := .type "dict", data := .dict #[] }) h.objs.size u0
  set : ∀ (X : Cx), X.A.units < cLine → ∀ {pins : List (Addr × Obj)} {σ : L2.St} {H H' : Hp} {s : Shared} {E : Value → Shared → Prop} {D : Addr} {y z : V} {u r : Value} {Q : Unit → Shared → Prop}, L2.Inv X pins σ H s → L2.RelV y u → L2.RelV z r → put H D y z H' → (∀ s', L2.Inv X pins σ H' s' → Q () s') →
    wpAny (model X.prog X.w) X.A (dictSet D u r) Q E s
def kindT : DKind where
  u0 := .dT []
  put := fun H D y z H' => ∃ (c : Addr) (kvs : List (List Key × V)) (k : List Key), y = .ref c ∧ H c = some (.tup (k.map kV)) ∧ H D = some (.dT kvs) ∧ kvs.length < sizeLine ∧ H' = upd H D (.dT (putK kvs k z))
  new := fun _ _ _ h hb => dt_empty h hb
  set := by
    rintro X hu pins σ H H' s E D y z u r Q I ry rz ⟨c, kvs, k, rfl, hc, hD, hl, rfl⟩ h
    cases ry
    exact d_dictSetT hu I hD hl hc rz h
def kindK : DKind where
  u0 := .dK []
  put := fun H D y z H' => ∃ (kvs : List (Key × V)) (k : Key), y = kV k ∧ H D = some (.dK kvs) ∧ kvs.length < sizeLine ∧ H' = upd H D (.dK (putK kvs k z))
  new := fun _ _ _ h hb => dk_empty h hb
  set := by
    rintro X hu pins σ H H' s E D y z u r Q I ry rz ⟨kvs, k, rfl, hD, hl, rfl⟩ h
    exact d_dictSet I hD hl ry rz h
/-- {k: v for target in iter if ..} into a dict of some kind -/
def tDcG (κ : DKind) (wi : TI) (g : TG) (tt : TT) (tk tv : TE) (vs : List Nat) : TE := fun σ H Q => wi σ H fun J H1 => ∀ D, H1 D = none → ∃ W : Nat → Nat → Hp → Prop, (∃ m, W 0 m (upd H1 D κ.u0)) ∧ ∀ i m H, W i m H →
  (J.stop i H ∧ Q (.ref D) H) ∨ (J.go i H ∧ ∃ Nx : Hp → Prop, (∀ H', Nx H' → ∃ m', m' < m ∧ W (i + 1) m' H') ∧ ∀ x H', J.yld i H x H' → g x (wipe σ vs) H' fun σ2 H2 => wipe σ2 vs = wipe σ vs ∧ tt σ2 H2 fun b H3 =>
    if b = true then tk σ2 H3 fun y H4 => tv σ2 H4 fun z H5 => ∃ H6, κ.put H5 D y z H6 ∧ Nx H6 else Nx H3)
section
variable {X : Cx} {κ : DKind} {kx vx tg iter : Expr} {ifs : List Expr} {scope : Scope} {own : List (Str × Nat)} {wi : TI} {g : TG} {tt : TT} {tk tv : TE}
theorem dcG_core {pins : List (Addr × Obj)} {s : Shared} {σ : L2.St} {H : Hp} {Q : VK} {pos pos' : Pos} {use : Option (Value → Sem Unit)} {Qf : Value → Shared → Prop} (hu : X.A.units < cLine) (calm : X.calm = true) (ndN : X.N.Nodup) (I : L2.Inv X pins σ H s) (pi : PI X tg iter wi) (ok : BlkOk X.N X.env.scope scope own)
    (pgB : ∀ (s : Shared) (H : Hp) (C : Addr) (cl : List (Str × Addr)) (fp : List Addr), PG (X.blk s H scope (compEnvC scope cl C X.env) fp) tg g) (ptB : ∀ (s : Shared) (H : Hp) (C : Addr) (cl : List (Str × Addr)) (fp : List Addr), PTs (X.blk s H scope (compEnvC scope cl C X.env) fp) ifs tt)
    (pkB : ∀ (s : Shared) (H : Hp) (C : Addr) (cl : List (Str × Addr)) (fp : List Addr), PE (X.blk s H scope (compEnvC scope cl C X.env) fp) kx tk) (pvB : ∀ (s : Shared) (H : Hp) (C : Addr) (cl : List (Str × Addr)) (fp : List Addr), PE (X.blk s H scope (compEnvC scope cl C X.env) fp) vx tv)
    (hfs : ∀ x, foldedSetIterable iter X.env x = pure x) (h : tDcG κ wi g tt tk tv (own.map (·.2)) σ H Q)
    (hRR : ∀ D C s' m H', L2.Inv X pins σ H' s' → Q (.ref D) H' → s'.heap.Ns C m → FpOk X pins H' C → compPost (model X.prog X.w) X.A X.xe use Qf (.ref D) C (.ok .next) s') :
    wpAny (model X.prog X.w) X.A (comprehension (.DictComp kx vx [⟨tg, iter, ifs, 0⟩] scope pos) scope X.env pos' (newDict) false (eval iter X.env) use) Qf X.xe s := by
  have cap : ∀ y ∈ scope.names, y.2 = .free → ∃ c, X.env.cells.lookup y.1 = some c := fun y hy e => (ok.free y hy e).elim (fun k => I.ok.has _ (.inl k)) fun k => I.ok.has _ (.inr k)
  refine wpAny_comprehension_free (use := use) rfl hfs (closure_ok cap) ok.kind (fun y hy e => by rw [ok.uniq y hy, e]) (thn (pi.run pins s σ H _ I h) fun xv s1 hx => thn hx fun itv s2 ⟨it, fp, tn, J, H2, e, I2, T, stn, ffp, q⟩ => ?_)
  subst e
  refine wpAny_newObj_type (newEnv_comp ?_)
  generalize hD : s2.heap.objs.size = D
  obtain ⟨W, ⟨m0, w0⟩, turn⟩ := q D (I2.hok.fresh (Nat.le_of_eq hD))
  generalize hs3 : ({ s2 with heap := s2.heap.push { cls := .type "dict", data := .dict #[] } } : Shared) = s3
  have heap3 : s3.heap = s2.heap.push { cls := .type "dict", data := .dict #[] } := by rw [← hs3]
  have I3 : L2.Inv X pins σ (upd H2 D κ.u0) s3 := by
    subst hs3 hD
    exact I2.laid (t' := s2.toks) (fun b o e => Heap.get?_push_of_some _ e) (Nat.le_refl _) (κ.new _ _ _ s2.heap I2.big)
  have small : ∀ b ∈ fp, b < s2.heap.objs.size := fun b hb => let ⟨o, e, _⟩ := T.obj _ _ stn b hb; Heap.lt_size e
  have ffp3 : ∀ b ∈ fp, FpOk X pins (upd H2 D κ.u0) b ∧ b < s3.heap.objs.size := fun b hb =>
    ⟨⟨by rw [upd_ne (by rw [← hD]; exact Nat.ne_of_lt (small b hb))]; exact (ffp b hb).1, (ffp b hb).2⟩, by rw [heap3, Heap.size_push]; exact Nat.lt_succ_of_lt (small b hb)⟩
  have I4 := block_start I3 ok ndN ffp3
  have none3 : ∀ b ∈ fp, (upd H2 D κ.u0) b = none := fun b hb => (ffp3 b hb).1.1
  show codeAny _ _ (.compStart (.DictComp kx vx [⟨tg, iter, ifs, 0⟩] scope pos) 0 (.ref it) (.ref D) (compEnvC scope (cellsFrom (s3.heap.objs.size + 1) scope.names (cloFrom X.env.cells scope.names [])) s3.heap.objs.size X.env)) (compPost (model X.prog X.w) X.A X.xe use Qf (.ref D) s3.heap.objs.size) { s3 with heap := pushCells (s3.heap.push { cls := .type "dict", data := .dict #[] }) scope.names }
  generalize hcl : cellsFrom (s3.heap.objs.size + 1) scope.names (cloFrom X.env.cells scope.names []) = cl at I4 ⊢
  generalize hce : compEnvC scope cl s3.heap.objs.size X.env = ce at I4 ⊢
  have rg : PG (X.blk s3 (upd H2 D κ.u0) scope ce fp) tg g := by subst hce; exact pgB _ _ _ _ _
  have rt : PTs (X.blk s3 (upd H2 D κ.u0) scope ce fp) ifs tt := by subst hce; exact ptB _ _ _ _ _
  have rk : PE (X.blk s3 (upd H2 D κ.u0) scope ce fp) kx tk := by subst hce; exact pkB _ _ _ _ _
  have rv : PE (X.blk s3 (upd H2 D κ.u0) scope ce fp) vx tv := by subst hce; exact pvB _ _ _ _ _
  have locC : ce.locals = s3.heap.objs.size := by subst hce; rfl
  generalize hH3 : upd H2 D κ.u0 = H3 at I3 I4 rg rt rk rv w0 none3 ffp3
  generalize hs4 : ({ s3 with heap := pushCells (s3.heap.push { cls := .type "dict", data := .dict #[] }) scope.names } : Shared) = s4 at I4 ⊢
  have st3 : tn 0 s3.heap := T.keep _ _ _ stn fun b _ o e => by rw [heap3]; exact Heap.get?_push_of_some _ e
  have st4 : tn 0 s4.heap := T.keep _ _ _ st3 fun b _ o e => by rw [← hs4]; exact pushCells_keeps _ _ _ _ (Heap.get?_push_of_some _ e)
  -- the iterator's own objects, in the block
  have own_ok : ∀ {σ' : L2.St} {H' : Hp} {s' : Shared}, L2.Inv (X.blk s3 H3 scope ce fp) [] σ' H' s' → (∀ b ∈ fp, H' b = none) → ∀ b ∈ fp, FpOk (X.blk s3 H3 scope ce fp) [] H' b := fun J hn b hb =>
    ⟨hn b hb, (J.ok.exf b hb).1, J.ok.exfs b hb, .inl hb, fun x c e => (J.ok.exf b hb).2 x c e, fun p hp => absurd (show p ∈ ([] : List (Addr × Obj)) ++ [] from hp) (by simp)⟩
  have loop : codeAny (model X.prog X.w) X.A (.compLoop (.DictComp kx vx [⟨tg, iter, ifs, 0⟩] scope pos) 0 (.ref it) (.ref D) ce) (compPost (model X.prog X.w) X.A X.xe use Qf (.ref D) s3.heap.objs.size) s4 := by
    refine compLoop_anyD (fun n s' => ∃ i H', L2.Inv (X.blk s3 H3 scope ce fp) [] (wipe σ (own.map (·.2))) H' s' ∧ tn i s'.heap ∧ (∀ b ∈ fp, H' b = none) ∧ W i n H') ?_ m0 ⟨0, H3, I4, st4, none3, w0⟩
    rintro n s5 ⟨i, H5, J5, st5, n5, w5⟩
    rcases turn i n H5 w5 with ⟨stop, fin⟩ | ⟨go, Nx, next, step⟩
    · refine thnF (T.done (X.blk s3 H3 scope ce fp) rfl rfl rfl calm i [] s5 _ H5 (fun _ _ => False) J5 (own_ok J5 n5) st5 stop) fun r s6 ⟨hr, J6⟩ => ?_
      subst hr
      have I7 : L2.Inv X pins σ H5 s6 := I3.call' (ch := fp) J6.os J6.base J6.hok J6.bare fun b hb => ⟨(ffp3 b hb).1.2.2.2.1, (ffp3 b hb).1.2.1, (ffp3 b hb).1.2.2.2.2.1, (ffp3 b hb).1.2.2.2.2.2⟩
      have nC : H5 s3.heap.objs.size = none := locC ▸ (show H5 ce.locals = none from J6.free)
      obtain ⟨m, hm, _⟩ := J6.loc
      have hm : s6.heap.Ns s3.heap.objs.size m := locC ▸ (show s6.heap.Ns ce.locals m from hm)
      exact hRR D s3.heap.objs.size s6 m H5 I7 fin hm (I3.fpOk (Nat.le_refl _) nC)
    · refine thnF (T.item (X.blk s3 H3 scope ce fp) rfl rfl rfl calm i [] s5 _ H5 (fun _ _ => False) J5 (own_ok J5 n5) st5 go) fun r s6 ⟨u, hr, h6⟩ => ?_
      subst hr
      refine thnF h6 fun _ s7 ⟨x, H7, J7, r7, y7, st7, n7⟩ => ?_
      refine thnF (rg.run _ s7 _ H7 x u _ (J7.pinned (own_ok J7 n7) (T.obj _ _ st7)) r7 (step x H7 y7)) fun _ s8 ⟨σ8, H8, J8, hw8, q8⟩ => ?_
      refine thnF (rt.run _ s8 σ8 H8 _ J8 q8) fun b s9 ⟨H9, J9, q9⟩ => ?_
      have again : ∀ {s' : Shared} {H' : Hp}, L2.Inv (X.blk s3 H3 scope ce fp) ([] ++ pinsAt fp s7.heap) σ8 H' s' → Nx H' → ∃ m, m < n ∧ ∃ i H', L2.Inv (X.blk s3 H3 scope ce fp) [] (wipe σ (own.map (·.2))) H' s' ∧ tn i s'.heap ∧ (∀ b ∈ fp, H' b = none) ∧ W i m H' := fun {s' H'} J nx => by
        obtain ⟨m', hm, w'⟩ := next H' nx
        have pinned : ∀ b ∈ fp, ∀ o, s7.heap.get? b = some o → s'.heap.get? b = some o ∧ H' b = none := fun b hb o e =>
          let z := J.pin (b, o) (List.mem_append_right _ (List.mem_append_right _ (mem_pinsAt hb e)))
          ⟨z.1, z.2.1⟩
        refine ⟨m', hm, i + 1, H', (J.unpinned (pins := [])).weak (by rw [← hw8, wipe_length]) (fun j v e => ?_), T.keep _ _ _ st7 fun b hb o e => (pinned b hb o e).1, fun b hb => ?_, w'⟩
        · rw [← hw8] at e
          exact (wipe_some e).1
        · obtain ⟨o, e, _⟩ := T.obj _ _ st7 b hb
          exact (pinned b hb o e).2
      cases b with
      | false => exact again J9 (by simpa using q9)
      | true =>
        have q9 : tk σ8 H9 fun y H4 => tv σ8 H4 fun z H5 => ∃ H6, κ.put H5 D y z H6 ∧ Nx H6 := by simpa using q9
        simp only [if_true]
        refine thnF (rk.run _ s9 σ8 H9 _ J9 q9) fun z s10 ⟨yk, H10, J10, r10, q10⟩ => ?_
        refine thnF (rv.run _ s10 σ8 H10 _ J10 q10) fun z2 s11 ⟨yv, H11, J11, r11, H12, hp, nx⟩ => ?_
        exact κ.set (X.blk s3 H3 scope ce fp) hu J11 r10 r11 hp fun s12 J12 => again J12 nx
  exact codeAny_compStart_dict loop (T.self X.A 0 _ _ _ st4 loop)
theorem pe_dcG {pos : Pos} (hu : X.A.units < cLine) (calm : X.calm = true) (ndN : X.N.Nodup) (pi : PI X tg iter wi) (ok : BlkOk X.N X.env.scope scope own)
    (pgB : ∀ (s : Shared) (H : Hp) (C : Addr) (cl : List (Str × Addr)) (fp : List Addr), PG (X.blk s H scope (compEnvC scope cl C X.env) fp) tg g) (ptB : ∀ (s : Shared) (H : Hp) (C : Addr) (cl : List (Str × Addr)) (fp : List Addr), PTs (X.blk s H scope (compEnvC scope cl C X.env) fp) ifs tt)
    (pkB : ∀ (s : Shared) (H : Hp) (C : Addr) (cl : List (Str × Addr)) (fp : List Addr), PE (X.blk s H scope (compEnvC scope cl C X.env) fp) kx tk) (pvB : ∀ (s : Shared) (H : Hp) (C : Addr) (cl : List (Str × Addr)) (fp : List Addr), PE (X.blk s H scope (compEnvC scope cl C X.env) fp) vx tv)
    (hfs : ∀ x, foldedSetIterable iter X.env x = pure x := by intro _; rfl) : PE X (.DictComp kx vx [⟨tg, iter, ifs, 0⟩] scope pos) (tDcG κ wi g tt tk tv (own.map (·.2))) := by
  refine ⟨fun pins s σ H Q I h => ?_⟩
  rw [arm_eval_DictComp]
  refine dcG_core hu calm ndN I pi ok pgB ptB pkB pvB hfs h fun D C s' m H' I' q hn f => ⟨m, hn, fun h'' sb => ?_⟩
  obtain ⟨f0, f1, f2, f3, f4, f5⟩ := f
  exact ⟨.ref D, H', I'.turned (t' := s'.toks) (fun b o hb e => (sb.2 b hb).trans e) f0 f1 f3 f4 f5, rfl, q⟩
/-- name = {..} on one line, the name a local -/
theorem ps_setDcG {i : Nat} {y : Str} {py pos spos : Pos} (hu : X.A.units < cLine) (calm : X.calm = true) (ndN : X.N.Nodup) (hy : X.N[i]? = some y) (hyl : X.env.scope.names.lookup y = some .local)
    (hsw : swapsWith (.DictComp kx vx [⟨tg, iter, ifs, 0⟩] scope pos) (some (.Name y py)) spos.line X.env = pure true) (pi : PI X tg iter wi) (ok : BlkOk X.N X.env.scope scope own)
    (pgB : ∀ (s : Shared) (H : Hp) (C : Addr) (cl : List (Str × Addr)) (fp : List Addr), PG (X.blk s H scope (compEnvC scope cl C X.env) fp) tg g) (ptB : ∀ (s : Shared) (H : Hp) (C : Addr) (cl : List (Str × Addr)) (fp : List Addr), PTs (X.blk s H scope (compEnvC scope cl C X.env) fp) ifs tt)
    (pkB : ∀ (s : Shared) (H : Hp) (C : Addr) (cl : List (Str × Addr)) (fp : List Addr), PE (X.blk s H scope (compEnvC scope cl C X.env) fp) kx tk) (pvB : ∀ (s : Shared) (H : Hp) (C : Addr) (cl : List (Str × Addr)) (fp : List Addr), PE (X.blk s H scope (compEnvC scope cl C X.env) fp) vx tv)
    (hfs : ∀ x, foldedSetIterable iter X.env x = pure x := by intro _; rfl) : PS X (.Assign [.Name y py] (.DictComp kx vx [⟨tg, iter, ifs, 0⟩] scope pos) spos) (tAsg (tDcG κ wi g tt tk tv (own.map (·.2))) (gName i)) := by
  refine ⟨fun pins s σ H D I h => ?_⟩
  rw [exec_Assign_Name_used _ _ _ _ hsw]
  refine wpAny_bind (wpAny_standAt (wpAny_bind ?_))
  show wpAny _ X.A (do let _ ← comprehension (.DictComp kx vx [⟨tg, iter, ifs, 0⟩] scope pos) scope X.env (firstIterPos [⟨tg, iter, ifs, 0⟩] pos) (newDict) false (eval iter X.env) (some (assign (.Name y py) X.env))) _ _ s
  have h : tDcG κ wi g tt tk tv (own.map (·.2)) σ H (fun x H1 => gName i x σ H1 D.nx) := h
  refine wpAny_bind (thn (dcG_core (Qf := fun _ s' => SP X pins D .next s') hu calm ndN I pi ok pgB ptB pkB pvB hfs h fun L C s' m H' I' q hn f => ?_) fun _ s' hq => wpAny_pure (wpAny_pure hq))
  show wpAny _ _ (assign (.Name y py) X.env (.ref L)) _ _ _
  refine wpAny_assign_Name (store_ok2 (v := V.ref L) I' ndN hy (.inl hyl) rfl (fun s2 I2 ⟨a, sb, ha⟩ => ?_) (.inr hyl))
  obtain ⟨f0, f1, f2, f3, f4, f5⟩ := f
  have haC : C ≠ a := by
    rcases ha with z | z
    · rw [z]; exact f1
    · exact fun e => f4 y a z e.symm
  refine ⟨m, hn.sameBut sb haC, fun h3 sb3 => ?_⟩
  exact ⟨_, H', I2.turned (t' := s2.toks) (fun b o hb e => (sb3.2 b hb).trans e) f0 f1 f3 f4 f5, q⟩
theorem swD_true {kx vx : Expr} {gs : List Comprehension} {scope : Scope} {pos py : Pos} {y : Str} {l : Nat} {env : Env} (hk : env.scope.kind = .function) (hy : env.scope.names.lookup y = some .local) (hl : (py.line == pos.line) = true)
    (ha : (scope.names.any fun (n, k) => n == y && (k == .local || k == .cell)) = false) : swapsWith (.DictComp kx vx gs scope pos) (some (.Name y py)) l env = pure true := by
  have ky : env.kindOf y = some .local := hy
  have hb : env.blockKind = .function := by unfold Env.blockKind; rw [hk]; rfl
  unfold swapsWith
  simp only [hb, ky, ha, Expr.pos, hl]
  rfl
end
end My

namespace My
open PySem PySem.Spec L2 PyProof.Rows
/-! ### dicts whose keys are tuples of tuples of ints, the i-th key's value i -/
mutual
def intK : NestedKey → Bool
  | .num _ => true
  | .tup ks => intKs ks
  | .none => false
  | .text _ => false
def intKs : List NestedKey → Bool
  | [] => true
  | k :: ks => intK k && intKs ks
end
mutual
theorem hash_int (w w' : World) : ∀ k : NestedKey, intK k = true → k.hash w = k.hash w'
  | .num _, _ => rfl
  | .tup ks, h => by
    unfold NestedKey.hash
    rw [hashes_int w w' ks (by simpa [intK] using h)]
  | .none, h => by simp [intK] at h
  | .text _, h => by simp [intK] at h
theorem hashes_int (w w' : World) : ∀ ks : List NestedKey, intKs ks = true → NestedKey.hashes w ks = NestedKey.hashes w' ks
  | [], _ => rfl
  | k :: ks, h => by
    unfold intKs at h
    obtain ⟨h1, h2⟩ := Bool.and_eq_true_iff.mp h
    unfold NestedKey.hashes
    rw [hash_int w w' k h1, hashes_int w w' ks h2]
end
theorem intKs_mem : ∀ {ks : List NestedKey}, intKs ks = true → ∀ k ∈ ks, intK k = true
  | [], _, _, h => nomatch h
  | k :: ks, h, x, hx => by
    unfold intKs at h
    obtain ⟨h1, h2⟩ := Bool.and_eq_true_iff.mp h
    rcases List.mem_cons.mp hx with rfl | hx
    · exact h1
    · exact intKs_mem h2 x hx
section
variable {X : Cx} {pins : List (Addr × Obj)} {σ : L2.St} {H : Hp} {s : Shared}
mutual
theorem nis_of (I : L2.Inv X pins σ H s) : ∀ (k : NestedKey) (v : V) (u : Value), Dp X.K H v k.data → intK k = true → L2.RelV v u → NestedIs s.heap k u
  | .num i, _, _, h, _, r => by
    unfold NestedKey.data at h
    cases h
    obtain ⟨t, rfl⟩ := r
    exact .int i t
  | .tup ks, _, _, h, hk, r => by
    unfold NestedKey.data at h
    cases h with
    | tup h1 h2 =>
      cases r
      obtain ⟨its, rv, ⟨o, ho, hc, n, hd⟩, _⟩ := I.tuple h1
      exact .tup ho hc hd (by simpa using nall_of I ks _ _ h2 (by simpa [intK] using hk) rv)
  | .none, _, _, _, hk, _ => by simp [intK] at hk
  | .text _, _, _, _, hk, _ => by simp [intK] at hk
theorem nall_of (I : L2.Inv X pins σ H s) : ∀ (ks : List NestedKey) (vs : List V) (us : List Value), DpAll X.K H vs (NestedKey.datas ks) → intKs ks = true → L2.Vals vs us → NestedAll s.heap ks us
  | [], _, _, h, _, r => by
    unfold NestedKey.datas at h
    cases h
    cases r
    exact .nil
  | k :: ks, _, _, h, hk, r => by
    unfold NestedKey.datas at h
    unfold intKs at hk
    obtain ⟨k1, k2⟩ := Bool.and_eq_true_iff.mp hk
    cases h with
    | cons h1 h2 =>
      cases r with
      | cons r1 r2 => exact .cons (nis_of I k _ _ h1 k1 r1) (nall_of I ks _ _ h2 k2 r2)
end
end
/-- at a stands a dict: the i-th key ks[i], which stands at bs[i], has the value i -/
def NDict (a : Addr) (bs : List Addr) (ks : List NestedKey) (h : Heap) : Prop := (a == sysModules) = false ∧ ks.length ≤ 10000000 ∧ ks.Nodup ∧ (intKs ks = true ∧ ∀ k ∈ ks, k.depth ≤ 8) ∧
  ∃ o es ep, ∃ xs : List (NestedKey × Addr × Value), h.get? a = some o ∧ o.ExactDict ∧ o.data = .dict es ep ∧ xs.map (·.1) = ks ∧ xs.map (·.2.1) = bs ∧ (∀ (i : Nat) x, xs[i]? = some x → ∃ t, x.2.2 = .int (i : Nat) t) ∧ ∀ w : World, es.toList = xs.map fun x => ⟨x.1.hash w, .ref x.2.1, x.2.2⟩
def dN (a : Addr) (bs : List Addr) (ks : List NestedKey) : HO := .ext (NDict a bs ks)
theorem ndict_ok {P : Program} {w : World} {H : Hp} {h : Heap} {a : Addr} {bs : List Addr} {ks : List NestedKey} (n : NDict a bs ks h) : ObjOk P w H h a (dN a bs ks) := by
  refine ⟨n, ?_, ?_⟩
  · obtain ⟨_, _, _, _, o, _, _, _, h1, _⟩ := n
    exact ⟨o, h1⟩
  · rintro h1 h2 ⟨n1, n2, n3, n4, o, es, ep, xs, g1, g2⟩ hk
    exact ⟨n1, n2, n3, n4, o, es, ep, xs, hk o g1, g2⟩
def NKey (K : PySem.W.Frag) (H : Hp) (b : Addr) (k : NestedKey) : Prop := Dp K H (.ref b) k.data ∧ intK k = true ∧ k.depth ≤ 8
instance {K : PySem.W.Frag} {b : Addr} {k : NestedKey} : Mono (fun B => NKey K B b k) := ⟨fun B B' e h => ⟨dp_up e h.1, h.2⟩⟩
def KeysAt (K : PySem.W.Frag) (H : Hp) (bs : List Addr) (ks : List NestedKey) : Prop := ∀ (i : Nat) k b, ks[i]? = some k → bs[i]? = some b → NKey K H b k
instance {K : PySem.W.Frag} {bs : List Addr} {ks : List NestedKey} : Mono (fun B => KeysAt K B bs ks) := ⟨fun B B' e h i k b h1 h2 => Mono.up (F := fun B => NKey K B b k) B B' e (h i k b h1 h2)⟩
theorem atKey_get {xs : List (NestedKey × Addr × Value)} (nd : (xs.map (·.1)).Nodup) {i : Nat} {x : NestedKey × Addr × Value} (h : xs[i]? = some x) : atKey xs x.1 = some x.2 := by
  unfold atKey
  have : xs.find? (fun y => decide (y.1 = x.1)) = some x := by
    induction xs generalizing i with
    | nil => simp at h
    | cons y ys ih =>
      rw [List.map_cons, List.nodup_cons] at nd
      rw [List.find?_cons]
      cases i with
      | zero =>
        cases h
        rw [decide_eq_true rfl]
      | succ i =>
        have h' : ys[i]? = some x := by simpa using h
        have ne : ¬ y.1 = x.1 := fun e => nd.1 (e ▸ List.mem_map_of_mem (mem_of_get h'))
        rw [decide_eq_false ne]
        exact ih nd.2 h'
  rw [this]
  rfl
theorem atKey_none {xs : List (NestedKey × Addr × Value)} {k : NestedKey} (h : k ∉ xs.map (·.1)) : atKey xs k = none := by
  unfold atKey
  rw [List.find?_eq_none.mpr fun x hx => ?_]
  · rfl
  · have ne : ¬ x.1 = k := fun e => h (e ▸ List.mem_map_of_mem hx)
    rw [decide_eq_false ne]
    exact Bool.false_ne_true
section
variable {X : Cx} {pins : List (Addr × Obj)} {σ : L2.St} {H : Hp} {s : Shared} {a b : Addr} {bs : List Addr} {ks : List NestedKey} {k : NestedKey}
theorem nd_of (I : L2.Inv X pins σ H s) (e : H a = some (dN a bs ks)) (hk : KeysAt X.K H bs ks) : (a == sysModules) = false ∧ ks.length ≤ 10000000 ∧ ks.Nodup ∧ (intKs ks = true ∧ ∀ k ∈ ks, k.depth ≤ 8) ∧
    ∃ xs : List (NestedKey × Addr × Value), s.heap.DictOfH (nestedKind X.prog X.w) a xs ∧ xs.map (·.1) = ks ∧ xs.map (·.2.1) = bs ∧ ∀ (i : Nat) x, xs[i]? = some x → ∃ t, x.2.2 = .int (i : Nat) t := by
  obtain ⟨⟨n1, n2, n3, n4, o, es, ep, xs, g1, g2, g3, g4, g5, g6, g7⟩, _⟩ := (show ObjOk X.prog X.w H s.heap a (dN a bs ks) from I.hok a _ e)
  refine ⟨n1, n2, n3, n4, xs, ⟨o, es, ep, g1, g2, g3, g7 X.w, fun x hx => ?_, by rw [g4]; exact n3⟩, g4, g5, g6⟩
  obtain ⟨i, hi⟩ := List.mem_iff_getElem?.mp hx
  obtain ⟨q1, q2, q3⟩ := hk i x.1 x.2.1 (by rw [← g4, List.getElem?_map, hi]; rfl) (by rw [← g5, List.getElem?_map, hi]; rfl)
  exact ⟨nis_of I x.1 _ _ q1 q2 rfl, q3⟩
theorem nkey_is (I : L2.Inv X pins σ H s) (h : NKey X.K H b k) : (nestedKind X.prog X.w).is s.heap k b := ⟨nis_of I k _ _ h.1 h.2.1 rfl, h.2.2⟩
end
def NNinW (K : PySem.W.Frag) (y x : V) (H2 : Hp) (Q : VK) : Prop := ∃ a b bs ks k, x = .ref a ∧ y = .ref b ∧ H2 a = some (dN a bs ks) ∧ KeysAt K H2 bs ks ∧ NKey K H2 b k ∧ Q (.bl (!decide (k ∈ ks))) H2
def tNNin (K : PySem.W.Frag) (ty td : TE) : TE := fun σ H Q => ty σ H fun y H1 => td σ H1 fun x H2 => NNinW K y x H2 Q
def NGetW (K : PySem.W.Frag) (x y : V) (H2 : Hp) (Q : VK) : Prop := ∃ a b bs ks k i, x = .ref a ∧ y = .ref b ∧ H2 a = some (dN a bs ks) ∧ KeysAt K H2 bs ks ∧ NKey K H2 b k ∧ ks[i]? = some k ∧ Q (.int (i : Nat)) H2
def tNGet (K : PySem.W.Frag) (td ty : TE) : TE := fun σ H Q => td σ H fun x H1 => ty σ H1 fun y H2 => NGetW K x y H2 Q
def NPutW (K : PySem.W.Frag) (x y v : V) (H3 : Hp) (R : Hp → Prop) : Prop := ∃ a b bs ks k, x = .ref a ∧ y = .ref b ∧ H3 a = some (dN a bs ks) ∧ KeysAt K H3 bs ks ∧ bs.length = ks.length ∧ NKey K H3 b k ∧ k ∉ ks ∧ v = .int (ks.length : Nat) ∧ ks.length < 10000000 ∧ R (upd H3 a (dN a (bs ++ [b]) (ks ++ [k])))
def sNPut (K : PySem.W.Frag) (td ty tv : TE) : TS := fun D σ H => tv σ H fun v H1 => td σ H1 fun x H2 => ty σ H2 fun y H3 => NPutW K x y v H3 fun H4 => D.nx σ H4
def tNNew : TE := fun _ H Q => ∀ p, H p = none → Q (.ref p) (upd H p (dN p [] []))
def rLenN (K : PySem.W.Frag) : List V → Hp → VK → Prop := fun xs H Q => ∃ a bs ks, xs = [.ref a] ∧ H a = some (dN a bs ks) ∧ KeysAt K H bs ks ∧ Q (.int (ks.length : Nat)) H
section
variable {X : Cx} {o i value : Expr} {pos pos' : Pos} {td ty tv : TE}
theorem pe_nnew : PE X (.Dict [] [] pos) tNNew := ⟨fun pins s σ H Q I h => by
  refine wpAny_Dict_empty ⟨.ref s.heap.objs.size, _, I.laid (a := s.heap.objs.size) (o := dN s.heap.objs.size [] []) (t' := s.toks) (fun _ _ q => Heap.get?_push_of_some _ q) (Nat.le_refl _) (ndict_ok ⟨beq_eq_false_iff_ne.mpr (Ne.symm (Nat.ne_of_lt I.big)), Nat.zero_le _, List.nodup_nil, ⟨rfl, fun _ z => nomatch z⟩, _, #[], 0, [], Heap.get?_push_size _ rfl, ⟨rfl, rfl, rfl⟩, rfl, rfl, rfl, fun i x h => by simp at h, fun w => rfl⟩), rfl, h _ (I.hok.fresh (Nat.le_refl _))⟩⟩
theorem pc_nnin (hu : X.A.units + 9 < cLine) (hi : PE X i ty) (ho : PE X o td) : PC X .NotIn i o (tNNin X.K ty td) := by
  refine ⟨fun pins s σ H Q I h => ?_⟩
  refine thn (hi.run pins s σ H _ I h) fun iv s1 ⟨y, H1, I1, ry, q1⟩ => thn (ho.run pins s1 σ H1 _ I1 q1) fun u s2 ⟨x, H2, I2, rx, a, b, bs, ks, k, ex, ey, e, hks, hk, q2⟩ => ?_
  subst ex ey
  cases rx
  cases ry
  obtain ⟨n1, n2, n3, n4, xs, dd, e1, e2, e3⟩ := nd_of I2 e hks
  refine wpAny_notIn_heap (knd := nestedKind X.prog X.w) (show X.A.units + 1 + 8 < cLine by omega) (nkey_is I2 hk) n1 dd ?_
  refine ⟨.bl (!decide (k ∈ ks)), H2, I2.tok _, ?_, q2⟩
  by_cases hm : k ∈ ks
  · obtain ⟨j, hj⟩ := List.mem_iff_getElem?.mp hm
    rw [← e1, List.getElem?_map] at hj
    obtain ⟨x, hx, rfl⟩ := Option.map_eq_some_iff.mp hj
    rw [atKey_get (by rw [e1]; exact n3) hx, decide_eq_true hm]
    rfl
  · rw [atKey_none (by rw [e1]; exact hm), decide_eq_false hm]
    rfl
theorem pe_nget (hu : X.A.units + 9 < cLine) (ho : PE X o td) (hi : PE X i ty) (hs : NoSl i) : PE X (.Subscript o i pos) (tNGet X.K td ty) := by
  refine ⟨fun pins s σ H Q I h => ?_⟩
  refine subD_of PySem.F.slot_dict_getitem.lookup hs (thn (ho.run pins s σ H _ I h) fun u s1 ⟨x, H1, I1, rx, q1⟩ => thn (hi.run pins s1 σ H1 _ I1 q1) fun iv s2 ⟨y, H2, I2, ry, a, b, bs, ks, k, j, ex, ey, e, hks, hk, hj, q2⟩ => ?_)
  subst ex ey
  cases rx
  cases ry
  obtain ⟨n1, n2, n3, n4, xs, dd, e1, e2, e3⟩ := nd_of I2 e hks
  refine ⟨dd.typeIs, ?_⟩
  rw [← e1, List.getElem?_map] at hj
  obtain ⟨x, hx, rfl⟩ := Option.map_eq_some_iff.mp hj
  obtain ⟨t, ht⟩ := e3 j x hx
  refine wpAny_getItem_heap (knd := nestedKind X.prog X.w) (show X.A.units + 1 + 8 < cLine by omega) (nkey_is I2 hk) dd (atKey_get (by rw [e1]; exact n3) hx) ?_
  exact ⟨.int (j : Nat), H2, I2.tok _, ⟨t, ht⟩, q2⟩
theorem ps_nput (hu : X.A.units + 9 < cLine) (ho : PE X o td) (hi : PE X i ty) (hv : PE X value tv) (hs : swapsWith value (some (.Subscript o i pos')) pos.line X.env = pure false) :
    PS X (.Assign [.Subscript o i pos'] value pos) (sNPut X.K td ty tv) := by
  refine ⟨fun pins s σ H D I h => ?_⟩
  refine wpAny_Assign_Subscript (thn (hv.run pins s σ H _ I h) fun r s1 ⟨v, H1, I1, rv, q1⟩ => thn (ho.run pins s1 σ H1 _ I1 q1) fun u s2 ⟨x, H2, I2, rx, q2⟩ => thn (hi.run pins s2 σ H2 _ I2 q2) fun iv s3 ⟨y, H3, I3, ry, a, b, bs, ks, k, ex, ey, e, hks, hbl, hk, hno, ev, hl, q3⟩ => ?_) hs
  subst ex ey ev
  cases rx
  cases ry
  obtain ⟨n1, n2, n3, n4, xs, dd, e1, e2, e3⟩ := nd_of I3 e hks
  have xl : xs.length = ks.length := by rw [← e1, List.length_map]
  have hnone : atKey xs k = none := atKey_none (by rw [e1]; exact hno)
  refine wpAny_setItem_heap (knd := nestedKind X.prog X.w) (hsz := by rw [xl, sizeLine_eq]; omega) (show X.A.units + 1 + 8 < cLine by omega) (nkey_is I3 hk) dd fun h' dd' hsb => ?_
  rw [storedH_new hnone] at dd'
  obtain ⟨o', es, ep, g1, g2, g3, g4, g5, g6⟩ := dd'
  obtain ⟨t, ht⟩ := rv
  refine ⟨σ, _, d_write I3 (by rw [e]; exact True.intro) hsb ⟨o', g1⟩ (ndict_ok ⟨n1, by rw [List.length_append]; show ks.length + 1 ≤ _; omega, ?_, ⟨?_, fun k' hk' => ?_⟩, o', es, ep, xs ++ [(k, b, r)], g1, g2, g3, by rw [List.map_append, e1]; rfl, by rw [List.map_append, e2]; rfl, fun j x hx => ?_, fun w => ?_⟩), q3⟩
  · rw [List.map_append, e1] at g6
    exact g6
  · have : ∀ l : List NestedKey, intKs l = true → intKs (l ++ [k]) = true := fun l => by
      induction l with
      | nil => intro _; simp [intKs, hk.2.1]
      | cons x l ih =>
        intro hl
        unfold intKs at hl
        obtain ⟨h1, h2⟩ := Bool.and_eq_true_iff.mp hl
        show (intK x && intKs (l ++ [k])) = true
        rw [h1, ih h2]
        rfl
    exact this ks n4.1
  · rcases List.mem_append.mp hk' with z | z
    · exact n4.2 k' z
    · cases List.mem_singleton.mp z
      exact hk.2.2
  · by_cases hj : j < xs.length
    · rw [List.getElem?_append_left hj] at hx
      exact e3 j x hx
    · have h2 := (List.getElem?_eq_some_iff.mp hx).1
      rw [List.length_append, List.length_singleton] at h2
      obtain rfl : j = xs.length := by omega
      rw [List.getElem?_append_right (Nat.le_refl _), Nat.sub_self] at hx
      cases hx
      rw [xl]
      exact ⟨t, ht⟩
  · rw [g4]
    refine List.map_congr_left fun x hx => ?_
    have hik : intK x.1 = true := by
      rcases List.mem_append.mp hx with z | z
      · exact intKs_mem n4.1 x.1 (by rw [← e1]; exact List.mem_map_of_mem z)
      · cases List.mem_singleton.mp z
        exact hk.2.1
    show (⟨x.1.hash X.w, .ref x.2.1, x.2.2⟩ : DictEntry) = _
    rw [hash_int X.w w x.1 hik]
theorem call_lenN : CallR X (.builtin "len") (rLenN X.K) := by
  intro pins s σ H xs us Q I r h
  obtain ⟨a, bs, ks, rfl, e, hks, q⟩ := h
  cases r with | cons rx rr => ?_
  cases rr
  cases rx
  obtain ⟨n1, n2, n3, n4, ys, dd, e1, e2, e3⟩ := nd_of I e hks
  have yl : ys.length = ks.length := by rw [← e1, List.length_map]
  refine call_len_dictH n1 dd (by omega) ?_
  rw [yl]
  exact ⟨.int ((ks.length : Nat) : Int), H, I.tok _, ⟨_, rfl⟩, q⟩
end
section
variable {σ : L2.St} {H : Hp} {Q : VK} {K : PySem.W.Frag} {F : Hp → Prop} {cs : List (Addr × HO)} {a b : Addr} {bs : List Addr} {ks : List NestedKey} {k : NestedKey} {ty td tv : TE} {i n : Nat}
theorem x_nnin (h : ty σ H fun y H1 => td σ H1 fun x H2 => NNinW K y x H2 Q) : tNNin K ty td σ H Q := h
theorem x_nn (h : H a = some (dN a bs ks)) (hk : KeysAt K H bs ks) (hb : NKey K H b k) (q : Q (.bl (!decide (k ∈ ks))) H) : NNinW K (.ref b) (.ref a) H Q := ⟨a, b, bs, ks, k, rfl, rfl, h, hk, hb, q⟩
theorem x_nget (h : td σ H fun x H1 => ty σ H1 fun y H2 => NGetW K x y H2 Q) : tNGet K td ty σ H Q := h
theorem x_ng (h : H a = some (dN a bs ks)) (hk : KeysAt K H bs ks) (hb : NKey K H b k) (hi : ks[i]? = some k) (q : Q (.int (i : Nat)) H) : NGetW K (.ref a) (.ref b) H Q := ⟨a, b, bs, ks, k, i, rfl, rfl, h, hk, hb, hi, q⟩
theorem x_nput {D : Ends} (h : tv σ H fun v H1 => td σ H1 fun x H2 => ty σ H2 fun y H3 => NPutW K x y v H3 fun H4 => D.nx σ H4) : sNPut K td ty tv D σ H := h
theorem x_np1 {R : Hp → Prop} (s : S F cs H) (hn : cs[n]? = some (a, dN a bs ks)) (hk : KeysAt K H bs ks) (hbl : bs.length = ks.length) (hb : NKey K H b k) (hno : k ∉ ks) (hl : ks.length < 1000000) (q : ∀ H', S F (cs.set n (a, dN a (bs ++ [b]) (ks ++ [k]))) H' → R H') : NPutW K (.ref a) (.ref b) (.int (ks.length : Nat)) H R :=
  ⟨a, b, bs, ks, k, rfl, rfl, s.at n hn, hk, hbl, hb, hno, rfl, by omega, q _ (s.set n hn _)⟩
theorem x_nnew (s : S F cs H) (q : ∀ p H', S F ((p, dN p [] []) :: cs) H' → Q (.ref p) H') : tNNew σ H Q := fun p hp => q p _ (s.alloc hp)
theorem x_lenN (h : H a = some (dN a bs ks)) (hk : KeysAt K H bs ks) (q : Q (.int (ks.length : Nat)) H) : rLenN K [.ref a] H Q := ⟨a, bs, ks, rfl, h, hk, q⟩
theorem keysAt_snoc {bs : List Addr} {ks : List NestedKey} (hl : bs.length = ks.length) (h : KeysAt K H bs ks) (hb : NKey K H b k) : KeysAt K H (bs ++ [b]) (ks ++ [k]) := by
  intro i k' b' h1 h2
  by_cases hi : i < ks.length
  · rw [List.getElem?_append_left hi] at h1
    rw [List.getElem?_append_left (by omega)] at h2
    exact h i k' b' h1 h2
  · have h3 := (List.getElem?_eq_some_iff.mp h1).1
    rw [List.length_append, List.length_singleton] at h3
    obtain rfl : i = ks.length := by omega
    rw [List.getElem?_append_right (Nat.le_refl _), Nat.sub_self] at h1
    rw [← hl, List.getElem?_append_right (Nat.le_refl _), Nat.sub_self] at h2
    cases h1
    cases h2
    exact hb
theorem keysAt_nil : KeysAt K H [] [] := fun i k b h => by simp at h
end
theorem x_whileN {σ : L2.St} {H : Hp} {c : TT} {tb : TS} {nx bk ct : L2.St → Hp → Prop} {rt : VK} (W : Nat → L2.St → Hp → Prop) (m : Nat) (h0 : W m σ H)
    (hs : ∀ m σ H, W m σ H → c σ H fun b H1 => if b = true then ∃ N : L2.St → Hp → Prop, (∀ σ' H', N σ' H' → ∃ m', m' < m ∧ W m' σ' H') ∧ tb ⟨N, rt, nx, N⟩ σ H1 else nx σ H1) : tWhile c tb ⟨nx, rt, bk, ct⟩ σ H :=
  ⟨W, ⟨m, h0⟩, hs⟩
end My

namespace My
open PySem PySem.Spec L2 PyProof.Rows
/-! ### tuple < tuple, both of ints -/
def rLtT (K : PySem.W.Frag) : R2 := fun x y H Q => ∃ (a b : Addr) (ns ms : List Int), x = .ref a ∧ y = .ref b ∧ SqT K H a (ns.map V.int) ∧ SqT K H b (ms.map V.int) ∧
  Q (.bl (Ob.lexAt (fun j => decide (ns.getD j 0 = ms.getD j 0)) (fun j => decide (ns.getD j 0 < ms.getD j 0)) (decide (ns.length < ms.length)) 0 (min ns.length ms.length))) H
theorem op_ltT {X : Cx} (hu : X.A.units < cLine) : OpR X (compareOp .Lt) (rLtT X.K) := by
  intro pins s σ H x y v u Q I rx ry h
  obtain ⟨a, b, ns, ms, rfl, rfl, ha, hb, q⟩ := h
  cases rx
  cases ry
  obtain ⟨its, r1, p1, _⟩ := I.tuple ha
  obtain ⟨its2, r2, p2, _⟩ := I.tuple hb
  have i1 : IntsAre its ns := Vals.ints r1
  have i2 : IntsAre its2 ms := Vals.ints r2
  have e1 : its.toArray.size = ns.length := by rw [List.size_toArray]; exact i1.length
  have e2 : its2.toArray.size = ms.length := by rw [List.size_toArray]; exact i2.length
  have at1 : ∀ j (h1 : j < its.toArray.size), ∃ t, its.toArray[j] = .int (ns.getD j 0) t := fun j h1 => PyProof.Rows.IntsAre.int_at i1 _ _ (by simp at h1; simp [h1])
  have at2 : ∀ j (h1 : j < its2.toArray.size), ∃ t, its2.toArray[j] = .int (ms.getD j 0) t := fun j h1 => PyProof.Rows.IntsAre.int_at i2 _ _ (by simp at h1; simp [h1])
  have R := Ob.RcOp.tuples_lt (A := X.A) (s := s) (e := fun j => decide (ns.getD j 0 = ms.getD j 0)) (r := fun j => decide (ns.getD j 0 < ms.getD j 0)) p1 p2 hu (fun j h1 h2 => by
    obtain ⟨t, et⟩ := at1 j h1
    obtain ⟨t', et'⟩ := at2 j h2
    rw [et, et']
    have z : (ns.getD j 0 == ms.getD j 0) = decide (ns.getD j 0 = ms.getD j 0) := by
      by_cases q : ns.getD j 0 = ms.getD j 0
      · rw [decide_eq_true q]; exact beq_iff_eq.mpr q
      · rw [decide_eq_false q]; exact beq_eq_false_iff_ne.mpr q
    rw [← z]
    exact SeqAt.EqAt.int_int _ _ _ _) (fun j h1 h2 _ => by
    obtain ⟨t, et⟩ := at1 j h1
    obtain ⟨t', et'⟩ := at2 j h2
    rw [et, et']
    exact Ob.RcOp.lt_int _ _ _ _)
  rw [e1, e2] at R
  have z : wpAny (model X.prog X.w) X.A (compareOp .Lt (.ref a) (.ref b)) (EP X pins σ Q) X.xe s := R X.prog X.w X.xe (EP X pins σ Q) ⟨.bl _, H, I, rfl, q⟩
  exact z
theorem x_ltT {K : PySem.W.Frag} {H : Hp} {Q : VK} {a b : Addr} {ns ms : List Int} (ha : SqT K H a (ns.map V.int)) (hb : SqT K H b (ms.map V.int)) (q : Q (.bl (Ob.lexAt (fun j => decide (ns.getD j 0 = ms.getD j 0)) (fun j => decide (ns.getD j 0 < ms.getD j 0)) (decide (ns.length < ms.length)) 0 (min ns.length ms.length))) H) : rLtT K (.ref a) (.ref b) H Q := ⟨a, b, ns, ms, rfl, rfl, ha, hb, q⟩
end My

namespace My
open PySem PySem.Spec L2
section
variable {σ : L2.St} {H : Hp} {Q : VK} {K : PySem.W.Frag} {F : Hp → Prop} {cs : List (Addr × HO)} {p q a b d : Addr} {x y v : V} {xs ys : List V} {i j : Int} {o : HO} {n : Nat}
variable {nx : L2.St → Hp → Prop} {rt : VK} {g : TG} {tb : TS} {tt : TT} {te : TE} {vs : List Nat} {kts : List (List Key × V)} {kt : List Key}
theorem S.freezeX (s : S F ((p, o) :: cs) H) : S (fun B => B p = some o ∧ F B) cs H := by
  have mF := s.mono
  exact s.freeze fun B f e => ⟨e, f⟩
/-- list + list -/
theorem x_catL (s : S F cs H) (h1 : H a = some (.lst xs)) (h2 : H b = some (.lst ys)) (hl : xs.length + ys.length ≤ 1000000) (k : ∀ r H', S F ((r, .lst (xs ++ ys)) :: cs) H' → Q (.ref r) H') : rAdd1 K (.ref a) (.ref b) H Q :=
  .inr (.inr (.inl ⟨a, b, xs, ys, rfl, rfl, h1, h2, sz5 hl, fun r hr => k r _ (s.alloc hr)⟩))
/-- data that are the same are not unlike -/
theorem x_neDp {d : PyData} (hp : Dp K H x d) (hq : Dp K H y d) (hs : SeqAt.shaped d = true) (k : Q (.bl false) H) : rNe1 K x y H Q := by
  refine .inr ⟨d, d, hp, hq, hs, hs, ?_⟩
  rw [SeqAt.eqv_refl _ (SeqAt.canLay_of_shaped hs)]
  exact k
theorem x_neD {d e : PyData} (hp : Dp K H x d) (hq : Dp K H y e) (hd : SeqAt.shaped d = true) (he : SeqAt.shaped e = true) (k : Q (.bl (!PyData.eqv d e)) H) : rNe1 K x y H Q := .inr ⟨d, e, hp, hq, hd, he, k⟩
theorem x_eqD {d e : PyData} (hp : Dp K H x d) (hq : Dp K H y e) (hd : SeqAt.shaped d = true) (he : SeqAt.shaped e = true) (k : Q (.bl (PyData.eqv d e)) H) : rEq1 K x y H Q := .inr ⟨d, e, hp, hq, hd, he, k⟩
/-! dicts with tuples as keys, walked -/
theorem x_lockT {t : TS} {nx bk ct : L2.St → Hp → Prop} {rt : VK} (s : S F cs H) (hk : cs[n]? = some (d, .dT kts))
    (q : ∀ od H', S F (cs.set n (d, .frz od (.dT kts))) H' → t ⟨fun σ' H' => H' d = some (.frz od (.dT kts)) ∧ nx σ' (upd H' d (.dT kts)), fun v H' => H' d = some (.frz od (.dT kts)) ∧ rt v (upd H' d (.dT kts)), fun σ' H' => H' d = some (.frz od (.dT kts)) ∧ bk σ' (upd H' d (.dT kts)), fun σ' H' => H' d = some (.frz od (.dT kts)) ∧ ct σ' (upd H' d (.dT kts))⟩ σ H') :
    tLock t ⟨nx, rt, bk, ct⟩ σ H := ⟨d, _, s.at n hk, trivial, fun od => q od _ (s.set n hk _)⟩
theorem x_lockET {t : TE} (s : S F cs H) (hk : cs[n]? = some (d, .dT kts))
    (q : ∀ od H', S F (cs.set n (d, .frz od (.dT kts))) H' → t σ H' fun v H' => H' d = some (.frz od (.dT kts)) ∧ Q v (upd H' d (.dT kts))) : tLockE t σ H Q := ⟨d, _, s.at n hk, trivial, fun od => q od _ (s.set n hk _)⟩
theorem x_unlockT {od : Obj} {R : Hp → Prop} (s : S F cs H) (hk : cs[n]? = some (d, .frz od (.dT kts))) (q : ∀ H', S F (cs.set n (d, .dT kts)) H' → R H') : H d = some (.frz od (.dT kts)) ∧ R (upd H d (.dT kts)) := ⟨s.at n hk, q _ (s.set n hk _)⟩
theorem x_forKT {od : Obj} (hd : H d = some (.frz od (.dT kts))) (Pv : Nat → L2.St → Hp → Prop) (h0 : Pv 0 σ H) (hG : ∀ i σ H, Pv i σ H → H d = some (.frz od (.dT kts)))
    (hs : ∀ i k v z σ H, kts[i]? = some (k, v) → H z = some (.tup (k.map kV)) → Pv i σ H → g (.ref z) σ H fun σ2 H2 => tb ⟨Pv (i + 1), rt, nx, Pv (i + 1)⟩ σ2 H2) (hn : ∀ σ H, Pv kts.length σ H → nx σ H) :
    ∃ d' o, V.ref d = .ref d' ∧ ((∃ kvs, H d' = some (.frz o (.dK kvs)) ∧ ForW (Itk d' o kvs) σ H nx rt g tb) ∨ ∃ kvs, H d' = some (.frz o (.dT kvs)) ∧ ForW (Itkt d' o kvs) σ H nx rt g tb) :=
  ⟨d, od, rfl, .inr ⟨kts, hd, forW_it walk_keysT Pv h0 (fun i σ H _ h => hG i σ H h) (fun i x σ H H' hi hp y => by
    obtain ⟨rfl, k, v, z, h1, rfl, h2⟩ := y
    exact hs i k v z σ H' h1 h2 hp) hn⟩⟩
theorem x_lcKT {od : Obj} (hd : H d = some (.frz od (.dT kts))) (Pv : Addr → Nat → Hp → Prop) (h0 : ∀ D, H D = none → Pv D 0 (upd H D (.lst []))) (hG : ∀ D i H, Pv D i H → H d = some (.frz od (.dT kts)))
    (hs : ∀ D i k v z H, kts[i]? = some (k, v) → H z = some (.tup (k.map kV)) → Pv D i H → g (.ref z) (wipe σ vs) H fun σ2 H2 => wipe σ2 vs = wipe σ vs ∧ tt σ2 H2 fun b H3 =>
      if b = true then te σ2 H3 fun y H4 => ∃ acc, H4 D = some (.lst acc) ∧ acc.length < sizeLine ∧ Pv D (i + 1) (upd H4 D (.lst (acc ++ [y]))) else Pv D (i + 1) H3) (hn : ∀ D H, Pv D kts.length H → Q (.ref D) H) :
    ∃ d' o, V.ref d = .ref d' ∧ ((∃ kvs, H d' = some (.frz o (.dK kvs)) ∧ LcW (Itk d' o kvs) σ H Q g tt te vs) ∨ ∃ kvs, H d' = some (.frz o (.dT kvs)) ∧ LcW (Itkt d' o kvs) σ H Q g tt te vs) :=
  ⟨d, od, rfl, .inr ⟨kts, hd, lcW_it walk_keysT Pv h0 (fun D i H _ h => hG D i H h) (fun D i x H H' hi hp y => by
    obtain ⟨rfl, k, v, z, h1, rfl, h2⟩ := y
    exact hs D i k v z H' h1 h2 hp) hn⟩⟩
/-- is it a key? of a dict that may be locked -/
theorem x_diR {neg : Bool} (h : Rd H a (.dT kts)) (hb : H b = some (.tup (kt.map kV))) (q : Q (.bl (if neg then !(valV kts kt).isSome else (valV kts kt).isSome)) H) : DInW neg (.ref a) (.ref b) H Q := ⟨a, _, rfl, .inr ⟨kts, kt, b, h, rfl, hb, rfl⟩, q⟩
theorem putK_key {κ : Type} [DecidableEq κ] {kvs : List (κ × V)} {k j : κ} {v : V} (h : j ∈ (putK kvs k v).map Prod.fst) : j = k ∨ j ∈ kvs.map Prod.fst := by
  unfold putK at h
  split at h
  · obtain ⟨e, he, rfl⟩ := List.mem_map.mp h
    obtain ⟨e', he', rfl⟩ := List.mem_map.mp he
    split
    · rename_i hk
      exact .inl hk
    · exact .inr (List.mem_map_of_mem he')
  · rw [List.map_append] at h
    rcases List.mem_append.mp h with h | h
    · exact .inr h
    · exact .inl (List.mem_singleton.mp h)
/-- {k: v for x in xs}, the keys tuples -/
theorem dcT_it {tk tv : TE} {J : It} {n : Nat} {G : Hp → Prop} {Y : Nat → Hp → V → Hp → Prop} (w : Walk J n G Y) (Pv : Addr → Nat → Hp → Prop) (h0 : ∀ D, H D = none → Pv D 0 (upd H D (.dT []))) (hG : ∀ D i H, i ≤ n → Pv D i H → G H)
    (hs : ∀ D i x H H', i < n → Pv D i H → Y i H x H' → g x (wipe σ vs) H' fun σ2 H2 => wipe σ2 vs = wipe σ vs ∧ tt σ2 H2 fun b H3 =>
      if b = true then tk σ2 H3 fun y H4 => tv σ2 H4 fun z H5 => ∃ H6, kindT.put H5 D y z H6 ∧ Pv D (i + 1) H6 else Pv D (i + 1) H3) (hd : ∀ D H, Pv D n H → Q (.ref D) H) :
    ∀ D, H D = none → ∃ W : Nat → Nat → Hp → Prop, (∃ m, W 0 m (upd H D (.dT []))) ∧ ∀ i m H, W i m H →
      (J.stop i H ∧ Q (.ref D) H) ∨ (J.go i H ∧ ∃ Nx : Hp → Prop, (∀ H', Nx H' → ∃ m', m' < m ∧ W (i + 1) m' H') ∧ ∀ x H', J.yld i H x H' → g x (wipe σ vs) H' fun σ2 H2 => wipe σ2 vs = wipe σ vs ∧ tt σ2 H2 fun b H3 =>
        if b = true then tk σ2 H3 fun y H4 => tv σ2 H4 fun z H5 => ∃ H6, kindT.put H5 D y z H6 ∧ Nx H6 else Nx H3) := by
  intro D hD
  refine ⟨fun i m H => m = n - i ∧ i ≤ n ∧ Pv D i H, ⟨n, by simp, Nat.zero_le _, h0 D hD⟩, ?_⟩
  rintro i m H ⟨rfl, hi, p⟩
  have q := hG D i H hi p
  by_cases hlt : i < n
  · exact .inr ⟨w.goes i H hlt q, Pv D (i + 1), fun H' p' => ⟨n - (i + 1), by omega, rfl, hlt, p'⟩, fun x H' y => hs D i x H H' hlt p (w.yields i H x H' hlt q y)⟩
  · have e : i = n := by omega
    subst e
    exact .inl ⟨w.stops H q, hd D H p⟩
def DcTW (J : It) (σ : L2.St) (H1 : Hp) (Q : VK) (g : TG) (tt : TT) (tk tv : TE) (vs : List Nat) : Prop := ∀ D, H1 D = none → ∃ W : Nat → Nat → Hp → Prop, (∃ m, W 0 m (upd H1 D (.dT []))) ∧ ∀ i m H, W i m H →
  (J.stop i H ∧ Q (.ref D) H) ∨ (J.go i H ∧ ∃ Nx : Hp → Prop, (∀ H', Nx H' → ∃ m', m' < m ∧ W (i + 1) m' H') ∧ ∀ x H', J.yld i H x H' → g x (wipe σ vs) H' fun σ2 H2 => wipe σ2 vs = wipe σ vs ∧ tt σ2 H2 fun b H3 =>
    if b = true then tk σ2 H3 fun y H4 => tv σ2 H4 fun z H5 => ∃ H6, kindT.put H5 D y z H6 ∧ Nx H6 else Nx H3)
theorem x_dcT {wi : TI} {tk tv : TE} (h : wi σ H fun J H1 => DcTW J σ H1 Q g tt tk tv vs) : tDcG kindT wi g tt tk tv vs σ H Q := h
theorem x_dcTB {tk tv : TE} {bb : Bool} (hq : SqB bb K H p xs) (Pv : Addr → Nat → Hp → Prop) (h0 : ∀ D, H D = none → Pv D 0 (upd H D (.dT []))) (hG : ∀ D i H, Pv D i H → SqB bb K H p xs)
    (hs : ∀ D i x H, xs[i]? = some x → Pv D i H → g x (wipe σ vs) H fun σ2 H2 => wipe σ2 vs = wipe σ vs ∧ tt σ2 H2 fun b H3 =>
      if b = true then tk σ2 H3 fun y H4 => tv σ2 H4 fun z H5 => ∃ H6, kindT.put H5 D y z H6 ∧ Pv D (i + 1) H6 else Pv D (i + 1) H3) (hd : ∀ D H, Pv D xs.length H → Q (.ref D) H) :
    ∃ a, V.ref p = .ref a ∧ (((∃ xs, SqL K H a xs) ∧ DcTW (Itl K a) σ H Q g tt tk tv vs) ∨ ((∃ xs, SqT K H a xs) ∧ DcTW (Itt K a) σ H Q g tt tk tv vs)) :=
  x_sqR (R := fun J H => DcTW J σ H Q g tt tk tv vs) hq (dcT_it walk_b Pv h0 (fun D i H _ h => hG D i H h) (fun D i x H H' hi hp y => by
    obtain ⟨rfl, hx⟩ := y
    exact hs D i x H' hx hp) hd)
end
end My

namespace My
open PySem PySem.Spec L2 PyProof.Rows
/-! ### dicts whose keys are tuples of tuples of ints, used as sets: the values do not matter -/
/-- at a stands a dict: the i-th key ks[i], which stands at bs[i] -/
def MDict (a : Addr) (bs : List Addr) (ks : List NestedKey) (h : Heap) : Prop := (a == sysModules) = false ∧ ks.length ≤ 10000000 ∧ ks.Nodup ∧ (intKs ks = true ∧ ∀ k ∈ ks, k.depth ≤ 8) ∧
  ∃ o es ep, ∃ xs : List (NestedKey × Addr × Value), h.get? a = some o ∧ o.ExactDict ∧ o.data = .dict es ep ∧ xs.map (·.1) = ks ∧ xs.map (·.2.1) = bs ∧ ∀ w : World, es.toList = xs.map fun x => ⟨x.1.hash w, .ref x.2.1, x.2.2⟩
def dM (a : Addr) (bs : List Addr) (ks : List NestedKey) : HO := .ext (MDict a bs ks)
theorem mdict_ok {P : Program} {w : World} {H : Hp} {h : Heap} {a : Addr} {bs : List Addr} {ks : List NestedKey} (n : MDict a bs ks h) : ObjOk P w H h a (dM a bs ks) := by
  refine ⟨n, ?_, ?_⟩
  · obtain ⟨_, _, _, _, o, _, _, _, h1, _⟩ := n
    exact ⟨o, h1⟩
  · rintro h1 h2 ⟨n1, n2, n3, n4, o, es, ep, xs, g1, g2⟩ hk
    exact ⟨n1, n2, n3, n4, o, es, ep, xs, hk o g1, g2⟩
theorem intKs_snoc {k : NestedKey} (h : intK k = true) : ∀ l : List NestedKey, intKs l = true → intKs (l ++ [k]) = true
  | [], _ => by simp [intKs, h]
  | x :: l, hl => by
    unfold intKs at hl
    obtain ⟨h1, h2⟩ := Bool.and_eq_true_iff.mp hl
    show (intK x && intKs (l ++ [k])) = true
    rw [h1, intKs_snoc h l h2]
    rfl
section
variable {X : Cx} {pins : List (Addr × Obj)} {σ : L2.St} {H : Hp} {s : Shared} {a b : Addr} {bs : List Addr} {ks : List NestedKey} {k : NestedKey}
theorem md_of (I : L2.Inv X pins σ H s) (e : H a = some (dM a bs ks)) (hk : KeysAt X.K H bs ks) : (a == sysModules) = false ∧ ks.length ≤ 10000000 ∧ ks.Nodup ∧ (intKs ks = true ∧ ∀ k ∈ ks, k.depth ≤ 8) ∧
    ∃ xs : List (NestedKey × Addr × Value), s.heap.DictOfH (nestedKind X.prog X.w) a xs ∧ xs.map (·.1) = ks ∧ xs.map (·.2.1) = bs := by
  obtain ⟨⟨n1, n2, n3, n4, o, es, ep, xs, g1, g2, g3, g4, g5, g7⟩, _⟩ := (show ObjOk X.prog X.w H s.heap a (dM a bs ks) from I.hok a _ e)
  refine ⟨n1, n2, n3, n4, xs, ⟨o, es, ep, g1, g2, g3, g7 X.w, fun x hx => ?_, by rw [g4]; exact n3⟩, g4, g5⟩
  obtain ⟨i, hi⟩ := List.mem_iff_getElem?.mp hx
  obtain ⟨q1, q2, q3⟩ := hk i x.1 x.2.1 (by rw [← g4, List.getElem?_map, hi]; rfl) (by rw [← g5, List.getElem?_map, hi]; rfl)
  exact ⟨nis_of I x.1 _ _ q1 q2 rfl, q3⟩
end
def MInW (K : PySem.W.Frag) (neg : Bool) (y x : V) (H2 : Hp) (Q : VK) : Prop := ∃ a b bs ks k, x = .ref a ∧ y = .ref b ∧ H2 a = some (dM a bs ks) ∧ KeysAt K H2 bs ks ∧ NKey K H2 b k ∧ Q (.bl (neg != decide (k ∈ ks))) H2
def tMIn (K : PySem.W.Frag) (neg : Bool) (ty td : TE) : TE := fun σ H Q => ty σ H fun y H1 => td σ H1 fun x H2 => MInW K neg y x H2 Q
def MPutW (K : PySem.W.Frag) (x y : V) (H3 : Hp) (R : Hp → Prop) : Prop := ∃ a b bs ks k, x = .ref a ∧ y = .ref b ∧ H3 a = some (dM a bs ks) ∧ KeysAt K H3 bs ks ∧ NKey K H3 b k ∧ ks.length < 10000000 ∧ (k ∉ ks → R (upd H3 a (dM a (bs ++ [b]) (ks ++ [k])))) ∧ (k ∈ ks → R (upd H3 a (dM a bs ks)))
def sMPut (K : PySem.W.Frag) (td ty tv : TE) : TS := fun D σ H => tv σ H fun _ H1 => td σ H1 fun x H2 => ty σ H2 fun y H3 => MPutW K x y H3 fun H4 => D.nx σ H4
def tMNew : TE := fun _ H Q => ∀ p, H p = none → Q (.ref p) (upd H p (dM p [] []))
def rTupM (K : PySem.W.Frag) : List V → Hp → VK → Prop := fun xs H Q => ∃ a bs ks, xs = [.ref a] ∧ H a = some (dM a bs ks) ∧ KeysAt K H bs ks ∧ bs.length = ks.length ∧ ∀ q, H q = none → Q (.ref q) (upd H q (.tup (bs.map V.ref)))
section
variable {prog : Program} {w : World} {A : Around} {E : Value → Shared → Prop} {s : Shared} {r d : Addr} {n : Nat} {P : Nat → Value → Prop} {OK : Heap → Prop}
theorem code_tuple_new_kdl {Q₁ : Value → Shared → Prop} (K : PySem.W.KdlSrc prog w "dict" r d n P OK) (hh : A.handled = none) (hok : OK s.heap) (hn : n ≤ sizeLine)
    (h : ∀ (h' : Heap) (tk : Nat) (acc : Array Value), (∀ b o, s.heap.get? b = some o → h'.get? b = some o) → ItemsOf P acc n →
      Q₁ (.ref h'.objs.size) { s with heap := h'.push { cls := .type "tuple", data := .seq acc }, toks := tk }) :
    codeAny (model prog w) A (.call (.builtin "tuple.__new__") ⟨[.type "tuple", .ref r], []⟩) (wants Q₁ E) s := by
  refine codeAny_of_tree ?_
  show wpAny _ A.in1 (do checkBuiltinCall "tuple.__new__" ⟨[.type "tuple", .ref r], []⟩; again (.builtin "tuple.__new__" ⟨[.type "tuple", .ref r], []⟩)) _ _ s
  refine wpAny_bind (wpAny_of_eq (F.newCall_tuple_1 _) (wpAny_pure ⟨plainId_quiet F.plain_tuple_new _, codeAny_builtin F.entry_tuple_new ?_⟩))
  rw [Around.under_plainId F.plain_tuple_new _]
  have hsub := sub_tuple_self
  have hinit := init_tuple_lookup
  have hmh := madeHere_tuple
  have hTI : s.TypeIs (.ref r) "dict" := K.type s hok
  have hh1 : A.in1.handled = none := hh
  wp_walk using wpAny_typeOf hTI, PySem.W.kdu_collect (A := A.in1) K hh1 hok hn
  intro h' tk acc hk hacc
  show wpAny _ _ (Builtin.Tuple.tupleExact acc.toList.toArray >>= fun v => ret v) _ _ _
  unfold Builtin.Tuple.tupleExact
  refine wpAny_bind (wpAny_newObj_type ?_ (by show acc.toList.toArray.size ≤ sizeLine; simp only [Array.toArray_toList]; rw [hacc.1]; exact hn))
  refine wpAny_pure ?_
  have e : acc.toList.toArray = acc := by simp
  rw [e]
  exact h h' tk acc hk hacc
theorem call_tuple_kdl {Q : Value → Shared → Prop} (K : PySem.W.KdlSrc prog w "dict" r d n P OK) (hh : A.handled = none) (hok : OK s.heap) (hn : n ≤ sizeLine)
    (hQ : ∀ (h' : Heap) (tk : Nat) (acc : Array Value), (∀ b o, s.heap.get? b = some o → h'.get? b = some o) → ItemsOf P acc n →
      Q (.ref h'.objs.size) { s with heap := h'.push { cls := .type "tuple", data := .seq acc }, toks := tk }) :
    wpAny (model prog w) A (call (.type "tuple") [.ref r]) Q E s := by
  refine callType_codes (Q₁ := fun obj s₁ => s₁.TypeIs obj "tuple" ∧ Q obj s₁) F.called_tuple (F.typeCall_tuple_1 _) F.entry_object_init
    (code_tuple_new_kdl (A := A.in1) K hh hok hn fun h' tk acc hk hacc => ⟨⟨_, Heap.get?_push_size _ rfl, rfl⟩, hQ h' tk acc hk hacc⟩) fun obj s₁ h₁ => ?_
  exact ⟨h₁.1, F.args_object_init_2 obj _, object_init_meets F.called_tuple.init.lookup F.called_tuple.made (by decide) prog w A.in1 _ s₁ ⟨h₁.1, rfl, h₁.2⟩⟩
end
section
variable {X : Cx} {o i value : Expr} {pos pos' : Pos} {td ty tv : TE}
theorem pe_mnew : PE X (.Dict [] [] pos) tMNew := ⟨fun pins s σ H Q I h => by
  refine wpAny_Dict_empty ⟨.ref s.heap.objs.size, _, I.laid (a := s.heap.objs.size) (o := dM s.heap.objs.size [] []) (t' := s.toks) (fun _ _ q => Heap.get?_push_of_some _ q) (Nat.le_refl _) (mdict_ok ⟨beq_eq_false_iff_ne.mpr (Ne.symm (Nat.ne_of_lt I.big)), Nat.zero_le _, List.nodup_nil, ⟨rfl, fun _ z => nomatch z⟩, _, #[], 0, [], Heap.get?_push_size _ rfl, ⟨rfl, rfl, rfl⟩, rfl, rfl, rfl, fun w => rfl⟩), rfl, h _ (I.hok.fresh (Nat.le_refl _))⟩⟩
theorem md_dec {xs : List (NestedKey × Addr × Value)} {ks : List NestedKey} {k : NestedKey} (e1 : xs.map (·.1) = ks) (n3 : ks.Nodup) : (atKey xs k).isSome = decide (k ∈ ks) := by
  by_cases hm : k ∈ ks
  · obtain ⟨j, hj⟩ := List.mem_iff_getElem?.mp hm
    rw [← e1, List.getElem?_map] at hj
    obtain ⟨x, hx, rfl⟩ := Option.map_eq_some_iff.mp hj
    rw [atKey_get (by rw [e1]; exact n3) hx, decide_eq_true hm]
    rfl
  · rw [atKey_none (by rw [e1]; exact hm), decide_eq_false hm]
    rfl
theorem pc_mnin (hu : X.A.units + 9 < cLine) (hi : PE X i ty) (ho : PE X o td) : PC X .NotIn i o (tMIn X.K true ty td) := by
  refine ⟨fun pins s σ H Q I h => ?_⟩
  refine thn (hi.run pins s σ H _ I h) fun iv s1 ⟨y, H1, I1, ry, q1⟩ => thn (ho.run pins s1 σ H1 _ I1 q1) fun u s2 ⟨x, H2, I2, rx, a, b, bs, ks, k, ex, ey, e, hks, hk, q2⟩ => ?_
  subst ex ey
  cases rx
  cases ry
  obtain ⟨n1, n2, n3, n4, xs, dd, e1, e2⟩ := md_of I2 e hks
  refine wpAny_notIn_heap (knd := nestedKind X.prog X.w) (show X.A.units + 1 + 8 < cLine by omega) (nkey_is I2 hk) n1 dd ?_
  refine ⟨.bl (true != decide (k ∈ ks)), H2, I2.tok _, ?_, q2⟩
  rw [md_dec e1 n3]
  cases decide (k ∈ ks) <;> rfl
theorem pc_min (hu : X.A.units + 9 < cLine) (hi : PE X i ty) (ho : PE X o td) : PC X .In i o (tMIn X.K false ty td) := by
  refine ⟨fun pins s σ H Q I h => ?_⟩
  refine thn (hi.run pins s σ H _ I h) fun iv s1 ⟨y, H1, I1, ry, q1⟩ => thn (ho.run pins s1 σ H1 _ I1 q1) fun u s2 ⟨x, H2, I2, rx, a, b, bs, ks, k, ex, ey, e, hks, hk, q2⟩ => ?_
  subst ex ey
  cases rx
  cases ry
  obtain ⟨n1, n2, n3, n4, xs, dd, e1, e2⟩ := md_of I2 e hks
  refine wpAny_in_heap (knd := nestedKind X.prog X.w) (show X.A.units + 1 + 8 < cLine by omega) (nkey_is I2 hk) n1 dd ?_
  refine ⟨.bl (false != decide (k ∈ ks)), H2, I2.tok _, ?_, q2⟩
  rw [md_dec e1 n3]
  cases decide (k ∈ ks) <;> rfl
theorem put_fst {xs : List (NestedKey × Addr × Value)} {k : NestedKey} {v : Value} : (xs.map (putAt k v)).map (·.1) = xs.map (·.1) ∧ (xs.map (putAt k v)).map (·.2.1) = xs.map (·.2.1) := by
  constructor
  · rw [List.map_map]
    refine List.map_congr_left fun x _ => ?_
    show (putAt k v x).1 = x.1
    unfold putAt
    split <;> rfl
  · rw [List.map_map]
    refine List.map_congr_left fun x _ => ?_
    show (putAt k v x).2.1 = x.2.1
    unfold putAt
    split <;> rfl
theorem ps_mput (hu : X.A.units + 9 < cLine) (ho : PE X o td) (hi : PE X i ty) (hv : PE X value tv) (hs : swapsWith value (some (.Subscript o i pos')) pos.line X.env = pure false) :
    PS X (.Assign [.Subscript o i pos'] value pos) (sMPut X.K td ty tv) := by
  refine ⟨fun pins s σ H D I h => ?_⟩
  refine wpAny_Assign_Subscript (thn (hv.run pins s σ H _ I h) fun r s1 ⟨v, H1, I1, rv, q1⟩ => thn (ho.run pins s1 σ H1 _ I1 q1) fun u s2 ⟨x, H2, I2, rx, q2⟩ => thn (hi.run pins s2 σ H2 _ I2 q2) fun iv s3 ⟨y, H3, I3, ry, a, b, bs, ks, k, ex, ey, e, hks, hk, hl, q3, q4⟩ => ?_) hs
  subst ex ey
  cases rx
  cases ry
  obtain ⟨n1, n2, n3, n4, xs, dd, e1, e2⟩ := md_of I3 e hks
  have xl : xs.length = ks.length := by rw [← e1, List.length_map]
  refine wpAny_setItem_heap (knd := nestedKind X.prog X.w) (hsz := by rw [xl, sizeLine_eq]; omega) (show X.A.units + 1 + 8 < cLine by omega) (nkey_is I3 hk) dd fun h' dd' hsb => ?_
  obtain ⟨o', es, ep, g1, g2, g3, g4, g5, g6⟩ := dd'
  by_cases hm : k ∈ ks
  · obtain ⟨j, hj⟩ := List.mem_iff_getElem?.mp hm
    rw [← e1, List.getElem?_map] at hj
    obtain ⟨x, hx, rfl⟩ := Option.map_eq_some_iff.mp hj
    rw [storedH_old (atKey_get (by rw [e1]; exact n3) hx)] at g4 g5 g6
    refine ⟨σ, _, d_write I3 (by rw [e]; exact True.intro) hsb ⟨o', g1⟩ (mdict_ok (bs := bs) ⟨n1, n2, n3, n4, o', es, ep, xs.map (putAt x.1 r), g1, g2, g3, put_fst.1.trans e1, put_fst.2.trans e2, fun w => ?_⟩), q4 hm⟩
    rw [g4]
    refine List.map_congr_left fun z hz => ?_
    have hik : intK z.1 = true := intKs_mem n4.1 z.1 (by rw [← e1, ← put_fst.1]; exact List.mem_map_of_mem hz)
    show (⟨z.1.hash X.w, .ref z.2.1, z.2.2⟩ : DictEntry) = _
    rw [hash_int X.w w z.1 hik]
  · have hnone : atKey xs k = none := atKey_none (by rw [e1]; exact hm)
    rw [storedH_new hnone] at g4 g5 g6
    refine ⟨σ, _, d_write I3 (by rw [e]; exact True.intro) hsb ⟨o', g1⟩ (mdict_ok ⟨n1, by rw [List.length_append]; show ks.length + 1 ≤ _; omega, ?_, ⟨intKs_snoc hk.2.1 ks n4.1, fun k' hk' => ?_⟩, o', es, ep, xs ++ [(k, b, r)], g1, g2, g3, by rw [List.map_append, e1]; rfl, by rw [List.map_append, e2]; rfl, fun w => ?_⟩), q3 hm⟩
    · rw [List.map_append, e1] at g6
      exact g6
    · rcases List.mem_append.mp hk' with z | z
      · exact n4.2 k' z
      · cases List.mem_singleton.mp z
        exact hk.2.2
    · rw [g4]
      refine List.map_congr_left fun x hx => ?_
      have hik : intK x.1 = true := by
        rcases List.mem_append.mp hx with z | z
        · exact intKs_mem n4.1 x.1 (by rw [← e1]; exact List.mem_map_of_mem z)
        · cases List.mem_singleton.mp z
          exact hk.2.1
      show (⟨x.1.hash X.w, .ref x.2.1, x.2.2⟩ : DictEntry) = _
      rw [hash_int X.w w x.1 hik]
theorem call_tupM (hc : X.calm = true) : CallR X (.type "tuple") (rTupM X.K) := by
  intro pins s σ H xs us Q I r h
  obtain ⟨a, bs, ks, rfl, e, hks, hbl, q⟩ := h
  obtain ⟨u, rfl, rx⟩ := r.one
  cases rx
  obtain ⟨⟨n1, n2, n3, n4, o, es, ep, ys, g1, g2, g3, g4, g5, g7⟩, _⟩ := (show ObjOk X.prog X.w H s.heap a (dM a bs ks) from I.hok a _ e)
  have he := g7 X.w
  have l1 : es.size = ys.length := by rw [← Array.length_toList, he, List.length_map]
  have l2 : ys.length = ks.length := by rw [← g4, List.length_map]
  refine call_tuple_kdl (kdl_raw n1 g2 g3) (I.ok.hd hc) g1 (by rw [l1, l2, sizeLine_eq]; omega) fun h' tk acc kp it => ?_
  have ea : acc.toList = (bs.map Value.ref) := by
    rw [← g5, List.map_map]
    apply List.ext_getElem?
    intro j
    rw [List.getElem?_map]
    cases hj : acc.toList[j]? with
    | none =>
      have h1 := List.getElem?_eq_none_iff.mp hj
      rw [Array.length_toList, it.1] at h1
      rw [List.getElem?_eq_none (by omega)]
      rfl
    | some v =>
      obtain ⟨en, hen, hv⟩ := it.2 j v (by rw [← Array.getElem?_toList]; exact hj)
      rw [← Array.getElem?_toList, he, List.getElem?_map] at hen
      obtain ⟨y, hy, rfl⟩ := Option.map_eq_some_iff.mp hen
      rw [hy, hv]
      rfl
  have I2 : L2.Inv X pins σ H { s with heap := h', toks := tk } := I.kept kp
  refine ⟨.ref h'.objs.size, upd H h'.objs.size (.tup (bs.map V.ref)), I2.laid (t' := tk) (fun c o e => Heap.get?_push_of_some _ e) (Nat.le_refl _) (show ObjOk X.prog X.w _ _ _ (.tup (bs.map V.ref)) from ⟨?_, acc.toList, ?_, ?_⟩), rfl, q _ (I2.hok.fresh (Nat.le_refl _))⟩
  · rw [List.length_map, hbl, sizeLine_eq]; omega
  · rw [ea]; exact L2.vals_refs bs
  · rw [Array.toArray_toList]; exact IsTup.new _ _
end
section
variable {σ : L2.St} {H : Hp} {Q : VK} {K : PySem.W.Frag} {F : Hp → Prop} {cs : List (Addr × HO)} {a b : Addr} {bs : List Addr} {ks : List NestedKey} {k : NestedKey} {ty td tv : TE} {i n : Nat} {neg : Bool}
theorem x_mIn (h : ty σ H fun y H1 => td σ H1 fun x H2 => MInW K neg y x H2 Q) : tMIn K neg ty td σ H Q := h
theorem x_mi (h : H a = some (dM a bs ks)) (hk : KeysAt K H bs ks) (hb : NKey K H b k) (q : Q (.bl (neg != decide (k ∈ ks))) H) : MInW K neg (.ref b) (.ref a) H Q := ⟨a, b, bs, ks, k, rfl, rfl, h, hk, hb, q⟩
theorem x_mput {D : Ends} (h : tv σ H fun _ H1 => td σ H1 fun x H2 => ty σ H2 fun y H3 => MPutW K x y H3 fun H4 => D.nx σ H4) : sMPut K td ty tv D σ H := h
theorem x_mp {R : Hp → Prop} (s : S F cs H) (hn : cs[n]? = some (a, dM a bs ks)) (hk : KeysAt K H bs ks) (hb : NKey K H b k) (hl : ks.length < 1000000)
    (q : k ∉ ks → ∀ H', S F (cs.set n (a, dM a (bs ++ [b]) (ks ++ [k]))) H' → R H') (q2 : k ∈ ks → ∀ H', S F cs H' → R H') : MPutW K (.ref a) (.ref b) H R :=
  ⟨a, b, bs, ks, k, rfl, rfl, s.at n hn, hk, hb, by omega, fun h => q h _ (s.set n hn _), fun h => q2 h _ (by
    have z := s.set n hn (dM a bs ks)
    rwa [show cs.set n (a, dM a bs ks) = cs from List.ext_getElem? fun j => by
      rw [List.getElem?_set]
      split
      · subst_vars
        split
        · exact hn.symm
        · rename_i h; rw [List.getElem?_eq_none (by omega)]
      · rfl] at z)⟩
theorem x_mnew (s : S F cs H) (q : ∀ p H', S F ((p, dM p [] []) :: cs) H' → Q (.ref p) H') : tMNew σ H Q := fun p hp => q p _ (s.alloc hp)
theorem x_tupM (s : S F cs H) (h : H a = some (dM a bs ks)) (hk : KeysAt K H bs ks) (hl : bs.length = ks.length) (q : ∀ p H', S F ((p, .tup (bs.map V.ref)) :: cs) H' → Q (.ref p) H') : rTupM K [.ref a] H Q := ⟨a, bs, ks, rfl, h, hk, hl, fun p hp => q p _ (s.alloc hp)⟩
end
end My

namespace My
open PySem PySem.Spec L2 PyProof.Rows
/-! ### tuples of ints as data; in a list of them -/
def tupI (ns : List Int) : PyData := .tuple (ns.map PyData.int)
theorem eqv_tupI (ns ms : List Int) : PyData.eqv (tupI ns) (tupI ms) = decide (ns = ms) := by
  have h := eqv_ints ns ms
  unfold PyData.eqv at h
  unfold tupI PyData.eqv
  exact h
theorem tupI_lay (ns : List Int) : (tupI ns).canLay0 = true := SeqAt.canLay_of_shaped (shaped_tupI ns)
theorem tupI_depth (ns : List Int) : (tupI ns).depth ≤ 2 := by
  simp [tupI, PyData.depth, PySem.W.ke_depthAll]
theorem tupIs_lay : ∀ fs : List (List Int), PyData.canLayAll0 (fs.map tupI) = true
  | [] => by simp [PyData.canLayAll0]
  | f :: fs => by simp [PyData.canLayAll0, tupI_lay f, tupIs_lay fs]
def rInS (K : PySem.W.Frag) (neg : Bool) : R2 := fun x y H Q => ∃ d ds, Dp K H x d ∧ Dp K H y (.list ds) ∧ d.canLay0 = true ∧ PyData.canLayAll0 ds = true ∧ d.depth ≤ 8 ∧ Q (.bl (neg != ds.any fun z => PyData.eqv z d)) H
section
variable {X : Cx}
theorem op_inS (hu : X.A.units + 10 < cLine) : OpR X (compareOp .In) (rInS X.K false) := by
  intro pins s σ H x y v u Q I rx ry h
  obtain ⟨d, ds, hd, he, sd, se, hdp, q⟩ := h
  obtain ⟨as, r1⟩ := Dp.reads I d x v hd rx
  obtain ⟨bs, r2⟩ := Dp.reads I (.list ds) y u he ry
  exact SeqAt.in_list_reads r2 r1 (by first | exact se | (unfold PyData.canLay0; exact se)) sd (by have := Nat.min_le_right (PyData.depthAll ds) d.depth; omega) ⟨.bl _, H, I, rfl, by
    rw [show (false != ds.any fun z => PyData.eqv z d) = (ds.any fun z => PyData.eqv z d) by cases (ds.any fun z => PyData.eqv z d) <;> rfl] at q
    exact q⟩
theorem op_notInS (hu : X.A.units + 10 < cLine) : OpR X (compareOp .NotIn) (rInS X.K true) := by
  intro pins s σ H x y v u Q I rx ry h
  obtain ⟨d, ds, hd, he, sd, se, hdp, q⟩ := h
  obtain ⟨as, r1⟩ := Dp.reads I d x v hd rx
  obtain ⟨bs, r2⟩ := Dp.reads I (.list ds) y u he ry
  exact SeqAt.notIn_list_reads r2 r1 (by first | exact se | (unfold PyData.canLay0; exact se)) sd (by have := Nat.min_le_right (PyData.depthAll ds) d.depth; omega) ⟨.bl _, H, I, rfl, by
    rw [show (true != ds.any fun z => PyData.eqv z d) = (!ds.any fun z => PyData.eqv z d) by cases (ds.any fun z => PyData.eqv z d) <;> rfl] at q
    exact q⟩
end
section
variable {H : Hp} {Q : VK} {K : PySem.W.Frag} {l : Addr} {x : V} {xs : List V} {neg : Bool} {f : List Int} {fs : List (List Int)}
theorem any_tupI (f : List Int) (fs : List (List Int)) : ((fs.map tupI).any fun z => PyData.eqv z (tupI f)) = decide (f ∈ fs) := by
  induction fs with
  | nil => simp
  | cons g fs ih =>
    rw [List.map_cons, List.any_cons, ih, eqv_tupI]
    by_cases e : g = f
    · subst e; simp
    · simp [e, Ne.symm e]
theorem x_inDeep (hx : Dp K H x (tupI f)) (hl : SqL K H l xs) (hd : DpAll K H xs (fs.map tupI)) (q : Q (.bl (neg != decide (f ∈ fs))) H) : rInS K neg x (.ref l) H Q :=
  ⟨tupI f, fs.map tupI, hx, .lst hl hd, tupI_lay f, tupIs_lay fs, by have := tupI_depth f; omega, by rw [any_tupI]; exact q⟩
end
end My

namespace My
open PySem PySem.Spec L2
/-! ### an expression read in one of two ways -/
def tEither (t1 t2 : TE) : TE := fun σ H Q => t1 σ H Q ∨ t2 σ H Q
theorem pe_either {X : Cx} {e : Expr} {t1 t2 : TE} (h1 : PE X e t1) (h2 : PE X e t2) : PE X e (tEither t1 t2) := ⟨fun pins s σ H Q I h => h.elim (h1.run pins s σ H Q I) (h2.run pins s σ H Q I)⟩
theorem x_el {t1 t2 : TE} {σ : L2.St} {H : Hp} {Q : VK} (h : t1 σ H Q) : tEither t1 t2 σ H Q := .inl h
theorem x_er {t1 t2 : TE} {σ : L2.St} {H : Hp} {Q : VK} (h : t2 σ H Q) : tEither t1 t2 σ H Q := .inr h
end My

namespace My
open PySem PySem.Spec L2 PyProof.Rows
/-! ### sets of ints: the comprehension, len -/
theorem addI_ok {X : Cx} {pins : List (Addr × Obj)} {σ : L2.St} {H : Hp} {s : Shared} {E : Value → Shared → Prop} {D : Addr} {S : Int → Bool} {n : Nat} {y : Int} {tk : Tok} {Q : Value → Shared → Prop} (I : L2.Inv X pins σ H s) (hD : H D = some (SetO X.w D S n)) (room : n + 1 < scanBound)
    (h : ∀ s', L2.Inv X pins σ (upd H D (SetO X.w D (fun j => S j || decide (j = y)) (if S y = true then n else n + 1))) s' → Q .none s') : wpAny (model X.prog X.w) X.A (call (.builtin "set.add") [.ref D, .int y tk]) Q E s := by
  refine setR_add (setO_get I hD) room fun h' sb new => ?_
  have he : ∃ u, h'.get? D = some u := by
    have ⟨o, _, _, _, ho, _⟩ := new
    exact ⟨o, ho⟩
  exact h _ (I.write (e := D) (t' := s.toks + 1) (by rw [hD]; trivial) (.inl rfl) (fun b u hb hu => (sb.2 b hb).trans hu) he (setO_new new))
/-- {elt for target in iter if ..}, elt an int: D the new set -/
def ScW (w : World) (J : It) (σ : L2.St) (H1 : Hp) (Q : VK) (g : TG) (tt : TT) (te : TE) (vs : List Nat) : Prop := ∀ D, H1 D = none → ∃ W : Nat → Nat → Hp → Prop, (∃ m, W 0 m (upd H1 D (SetO w D (fun _ => false) 0))) ∧ ∀ i m H, W i m H →
  (J.stop i H ∧ Q (.ref D) H) ∨ (J.go i H ∧ ∃ Nx : Hp → Prop, (∀ H', Nx H' → ∃ m', m' < m ∧ W (i + 1) m' H') ∧ ∀ x H', J.yld i H x H' → g x (wipe σ vs) H' fun σ2 H2 => wipe σ2 vs = wipe σ vs ∧ tt σ2 H2 fun b H3 =>
    if b = true then te σ2 H3 fun y H4 => ∃ (k : Int) (S : Int → Bool) (n : Nat), y = .int k ∧ H4 D = some (SetO w D S n) ∧ n + 1 < scanBound ∧ Nx (upd H4 D (SetO w D (fun j => S j || decide (j = k)) (if S k = true then n else n + 1))) else Nx H3)
def tScI (w : World) (wi : TI) (g : TG) (tt : TT) (te : TE) (vs : List Nat) : TE := fun σ H Q => wi σ H fun J H1 => ScW w J σ H1 Q g tt te vs
section
variable {X : Cx} {ex tg iter : Expr} {ifs : List Expr} {scope : Scope} {own : List (Str × Nat)} {wi : TI} {g : TG} {tt : TT} {te : TE}
theorem pe_scI {pos : Pos} (calm : X.calm = true) (ndN : X.N.Nodup) (pi : PI X tg iter wi) (ok : BlkOk X.N X.env.scope scope own)
    (pgB : ∀ (s : Shared) (H : Hp) (C : Addr) (cl : List (Str × Addr)) (fp : List Addr), PG (X.blk s H scope (compEnvC scope cl C X.env) fp) tg g) (ptB : ∀ (s : Shared) (H : Hp) (C : Addr) (cl : List (Str × Addr)) (fp : List Addr), PTs (X.blk s H scope (compEnvC scope cl C X.env) fp) ifs tt)
    (peB : ∀ (s : Shared) (H : Hp) (C : Addr) (cl : List (Str × Addr)) (fp : List Addr), PE (X.blk s H scope (compEnvC scope cl C X.env) fp) ex te)
    (hfs : ∀ x, foldedSetIterable iter X.env x = pure x := by intro _; rfl) : PE X (.SetComp ex [⟨tg, iter, ifs, 0⟩] scope pos) (tScI X.w wi g tt te (own.map (·.2))) := by
  refine ⟨fun pins s σ H Q I h => ?_⟩
  rw [PpSet.eval_SetComp]
  have cap : ∀ y ∈ scope.names, y.2 = .free → ∃ c, X.env.cells.lookup y.1 = some c := fun y hy e => (ok.free y hy e).elim (fun k => I.ok.has _ (.inl k)) fun k => I.ok.has _ (.inr k)
  refine wpAny_comprehension_free (use := none) rfl hfs (closure_ok cap) ok.kind (fun y hy e => by rw [ok.uniq y hy, e]) (thn (pi.run pins s σ H _ I h) fun xv s1 hx => thn hx fun itv s2 ⟨it, fp, tn, J, H2, e, I2, T, stn, ffp, q⟩ => ?_)
  subst e
  refine PpSet.newSet_ok (newEnv_comp ?_)
  generalize hD : s2.heap.objs.size = D
  obtain ⟨W, ⟨m0, w0⟩, turn⟩ := q D (I2.hok.fresh (Nat.le_of_eq hD))
  generalize hob : ({ cls := .type "set", dict := none, data := .set #[] 0 (.fresh 0 0 (!X.w.params.followText "set-order")) } : Obj) = ob
  generalize hs3 : ({ s2 with heap := s2.heap.push ob } : Shared) = s3
  have heap3 : s3.heap = s2.heap.push ob := by rw [← hs3]
  have I3 : L2.Inv X pins σ (upd H2 D (SetO X.w D (fun _ => false) 0)) s3 := by
    subst hs3 hD hob
    exact I2.laid (t' := s2.toks) (fun b o e => Heap.get?_push_of_some _ e) (Nat.le_refl _) (setO_new (setR_fresh X.w))
  have small : ∀ b ∈ fp, b < s2.heap.objs.size := fun b hb => let ⟨o, e, _⟩ := T.obj _ _ stn b hb; Heap.lt_size e
  have ffp3 : ∀ b ∈ fp, FpOk X pins (upd H2 D (SetO X.w D (fun _ => false) 0)) b ∧ b < s3.heap.objs.size := fun b hb =>
    ⟨⟨by rw [upd_ne (by rw [← hD]; exact Nat.ne_of_lt (small b hb))]; exact (ffp b hb).1, (ffp b hb).2⟩, by rw [heap3, Heap.size_push]; exact Nat.lt_succ_of_lt (small b hb)⟩
  have I4 := block_start I3 ok ndN ffp3
  have none3 : ∀ b ∈ fp, (upd H2 D (SetO X.w D (fun _ => false) 0)) b = none := fun b hb => (ffp3 b hb).1.1
  show codeAny _ _ (.compStart (.SetComp ex [⟨tg, iter, ifs, 0⟩] scope pos) 0 (.ref it) (.ref D) (compEnvC scope (cellsFrom (s3.heap.objs.size + 1) scope.names (cloFrom X.env.cells scope.names [])) s3.heap.objs.size X.env)) (compPost (model X.prog X.w) X.A X.xe none (EP X pins σ Q) (.ref D) s3.heap.objs.size) { s3 with heap := pushCells (s3.heap.push { cls := .type "dict", data := .dict #[] }) scope.names }
  generalize hcl : cellsFrom (s3.heap.objs.size + 1) scope.names (cloFrom X.env.cells scope.names []) = cl at I4 ⊢
  generalize hce : compEnvC scope cl s3.heap.objs.size X.env = ce at I4 ⊢
  have rg : PG (X.blk s3 (upd H2 D (SetO X.w D (fun _ => false) 0)) scope ce fp) tg g := by subst hce; exact pgB _ _ _ _ _
  have rt : PTs (X.blk s3 (upd H2 D (SetO X.w D (fun _ => false) 0)) scope ce fp) ifs tt := by subst hce; exact ptB _ _ _ _ _
  have re : PE (X.blk s3 (upd H2 D (SetO X.w D (fun _ => false) 0)) scope ce fp) ex te := by subst hce; exact peB _ _ _ _ _
  have locC : ce.locals = s3.heap.objs.size := by subst hce; rfl
  generalize hH3 : upd H2 D (SetO X.w D (fun _ => false) 0) = H3 at I3 I4 rg rt re w0 none3 ffp3
  generalize hs4 : ({ s3 with heap := pushCells (s3.heap.push { cls := .type "dict", data := .dict #[] }) scope.names } : Shared) = s4 at I4 ⊢
  have st3 : tn 0 s3.heap := T.keep _ _ _ stn fun b _ o e => by rw [heap3]; exact Heap.get?_push_of_some _ e
  have st4 : tn 0 s4.heap := T.keep _ _ _ st3 fun b _ o e => by rw [← hs4]; exact pushCells_keeps _ _ _ _ (Heap.get?_push_of_some _ e)
  have own_ok : ∀ {σ' : L2.St} {H' : Hp} {s' : Shared}, L2.Inv (X.blk s3 H3 scope ce fp) [] σ' H' s' → (∀ b ∈ fp, H' b = none) → ∀ b ∈ fp, FpOk (X.blk s3 H3 scope ce fp) [] H' b := fun J hn b hb =>
    ⟨hn b hb, (J.ok.exf b hb).1, J.ok.exfs b hb, .inl hb, fun x c e => (J.ok.exf b hb).2 x c e, fun p hp => absurd (show p ∈ ([] : List (Addr × Obj)) ++ [] from hp) (by simp)⟩
  have loop : codeAny (model X.prog X.w) X.A (.compLoop (.SetComp ex [⟨tg, iter, ifs, 0⟩] scope pos) 0 (.ref it) (.ref D) ce) (compPost (model X.prog X.w) X.A X.xe none (EP X pins σ Q) (.ref D) s3.heap.objs.size) s4 := by
    refine PpSet.compLoopS_any (fun n s' => ∃ i H', L2.Inv (X.blk s3 H3 scope ce fp) [] (wipe σ (own.map (·.2))) H' s' ∧ tn i s'.heap ∧ (∀ b ∈ fp, H' b = none) ∧ W i n H') ?_ m0 ⟨0, H3, I4, st4, none3, w0⟩
    rintro n s5 ⟨i, H5, J5, st5, n5, w5⟩
    rcases turn i n H5 w5 with ⟨stop, fin⟩ | ⟨go, Nx, next, step⟩
    · refine thnF (T.done (X.blk s3 H3 scope ce fp) rfl rfl rfl calm i [] s5 _ H5 (fun _ _ => False) J5 (own_ok J5 n5) st5 stop) fun r s6 ⟨hr, J6⟩ => ?_
      subst hr
      have I7 : L2.Inv X pins σ H5 s6 := I3.call' (ch := fp) J6.os J6.base J6.hok J6.bare fun b hb => ⟨(ffp3 b hb).1.2.2.2.1, (ffp3 b hb).1.2.1, (ffp3 b hb).1.2.2.2.2.1, (ffp3 b hb).1.2.2.2.2.2⟩
      have nC : H5 s3.heap.objs.size = none := locC ▸ (show H5 ce.locals = none from J6.free)
      obtain ⟨m, hm, _⟩ := J6.loc
      have hm : s6.heap.Ns s3.heap.objs.size m := locC ▸ (show s6.heap.Ns ce.locals m from hm)
      obtain ⟨f0, f1, f2, f3, f4, f5⟩ := I3.fpOk (Nat.le_refl _) nC
      exact ⟨m, hm, fun h'' sb => ⟨.ref D, H5, I7.turned (t' := s6.toks) (fun b o hb e => (sb.2 b hb).trans e) f0 f1 f3 f4 f5, rfl, fin⟩⟩
    · refine thnF (T.item (X.blk s3 H3 scope ce fp) rfl rfl rfl calm i [] s5 _ H5 (fun _ _ => False) J5 (own_ok J5 n5) st5 go) fun r s6 ⟨u, hr, h6⟩ => ?_
      subst hr
      refine thnF h6 fun _ s7 ⟨x, H7, J7, r7, y7, st7, n7⟩ => ?_
      refine thnF (rg.run _ s7 _ H7 x u _ (J7.pinned (own_ok J7 n7) (T.obj _ _ st7)) r7 (step x H7 y7)) fun _ s8 ⟨σ8, H8, J8, hw8, q8⟩ => ?_
      refine thnF (rt.run _ s8 σ8 H8 _ J8 q8) fun b s9 ⟨H9, J9, q9⟩ => ?_
      have again : ∀ {s' : Shared} {H' : Hp}, L2.Inv (X.blk s3 H3 scope ce fp) ([] ++ pinsAt fp s7.heap) σ8 H' s' → Nx H' → ∃ m, m < n ∧ ∃ i H', L2.Inv (X.blk s3 H3 scope ce fp) [] (wipe σ (own.map (·.2))) H' s' ∧ tn i s'.heap ∧ (∀ b ∈ fp, H' b = none) ∧ W i m H' := fun {s' H'} J nx => by
        obtain ⟨m', hm, w'⟩ := next H' nx
        have pinned : ∀ b ∈ fp, ∀ o, s7.heap.get? b = some o → s'.heap.get? b = some o ∧ H' b = none := fun b hb o e =>
          let z := J.pin (b, o) (List.mem_append_right _ (List.mem_append_right _ (mem_pinsAt hb e)))
          ⟨z.1, z.2.1⟩
        refine ⟨m', hm, i + 1, H', (J.unpinned (pins := [])).weak (by rw [← hw8, wipe_length]) (fun j v e => ?_), T.keep _ _ _ st7 fun b hb o e => (pinned b hb o e).1, fun b hb => ?_, w'⟩
        · rw [← hw8] at e
          exact (wipe_some e).1
        · obtain ⟨o, e, _⟩ := T.obj _ _ st7 b hb
          exact (pinned b hb o e).2
      cases b with
      | false =>
        simp only [Bool.false_eq_true, if_false] at q9 ⊢
        exact again J9 q9
      | true =>
        simp only [if_true] at q9 ⊢
        refine thnF (re.run _ s9 σ8 H9 _ J9 q9) fun z s10 ⟨yv, H10, J10, r10, k0, S0, n0, ey, hD10, hz10, nx⟩ => ?_
        subst ey
        obtain ⟨tk, rfl⟩ := r10
        exact addI_ok (X := X.blk s3 H3 scope ce fp) J10 hD10 hz10 fun s11 J11 => again J11 nx
  exact PpSet.codeAny_compStart_set loop (T.self X.A 0 _ _ _ st4 loop)
end
def rLenSet (w : World) : List V → Hp → VK → Prop := fun vs H Q => ∃ (a : Addr) (S : Int → Bool) (n : Nat), vs = [V.ref a] ∧ H a = some (SetO w a S n) ∧ Q (.int (n : Nat)) H
theorem call_lenSet {X : Cx} : CallR X (.builtin "len") (rLenSet X.w) := by
  intro pins s σ H vs us Q I r h
  obtain ⟨a, S, n, rfl, ha, q⟩ := h
  obtain ⟨o, es, ep, t, ho, hex, hd, _, _, _, hb, hf, hn, _⟩ := setO_get I ha
  rw [Vals.ref1 r]
  have h4 : scanBound = 4096 := rfl
  refine call_len_set ho hex hd hf (by omega) ?_
  rw [hn]
  exact ⟨.int (n : Nat), H, I.tok _, ⟨_, rfl⟩, q⟩
section
variable {σ : L2.St} {H : Hp} {Q : VK} {K : PySem.W.Frag} {F : Hp → Prop} {cs : List (Addr × HO)} {w : World} {a : Addr} {S : Int → Bool} {n : Nat} {g : TG} {tt : TT} {te : TE} {vs : List Nat}
theorem x_scI {wi : TI} (h : wi σ H fun J H1 => ScW w J σ H1 Q g tt te vs) : tScI w wi g tt te vs σ H Q := h
theorem scW_it {J : It} {n : Nat} {G : Hp → Prop} {Y : Nat → Hp → V → Hp → Prop} (wk : Walk J n G Y) (Pv : Addr → Nat → Hp → Prop) (h0 : ∀ D, H D = none → Pv D 0 (upd H D (SetO w D (fun _ => false) 0))) (hG : ∀ D i H, i ≤ n → Pv D i H → G H)
    (hs : ∀ D i x H H', i < n → Pv D i H → Y i H x H' → g x (wipe σ vs) H' fun σ2 H2 => wipe σ2 vs = wipe σ vs ∧ tt σ2 H2 fun b H3 =>
      if b = true then te σ2 H3 fun y H4 => ∃ (k : Int) (S : Int → Bool) (n : Nat), y = .int k ∧ H4 D = some (SetO w D S n) ∧ n + 1 < scanBound ∧ Pv D (i + 1) (upd H4 D (SetO w D (fun j => S j || decide (j = k)) (if S k = true then n else n + 1))) else Pv D (i + 1) H3) (hd : ∀ D H, Pv D n H → Q (.ref D) H) : ScW w J σ H Q g tt te vs := by
  intro D hD
  refine ⟨fun i m H => m = n - i ∧ i ≤ n ∧ Pv D i H, ⟨n, by simp, Nat.zero_le _, h0 D hD⟩, ?_⟩
  rintro i m H ⟨rfl, hi, p⟩
  have q := hG D i H hi p
  by_cases hlt : i < n
  · exact .inr ⟨wk.goes i H hlt q, Pv D (i + 1), fun H' p' => ⟨n - (i + 1), by omega, rfl, hlt, p'⟩, fun x H' y => hs D i x H H' hlt p (wk.yields i H x H' hlt q y)⟩
  · have e : i = n := by omega
    subst e
    exact .inl ⟨wk.stops H q, hd D H p⟩
end
section
variable {σ : L2.St} {H : Hp} {Q : VK} {F : Hp → Prop} {cs : List (Addr × HO)} {w : World} {a : Addr} {T : Int → Bool} {n : Nat} {g : TG} {tt : TT} {te : TE} {vs : List Nat} {wi : TI}
theorem x_sortedSet (s : S F cs H) (h : H a = some (SetO w a T n)) (hn : n < 64) (q : ∀ (ns : List Int) p H', ns.Pairwise (· < ·) → (∀ k : Int, k ∈ ns ↔ T k = true) → ns.length = n → S F ((p, .lst (ns.map V.int)) :: cs) H' → Q (.ref p) H') : rSortedSet w [.ref a] H Q :=
  ⟨a, T, n, rfl, h, hn, fun ns p h1 h2 h3 hp => q ns p _ h1 h2 h3 (s.alloc hp)⟩
theorem x_lenSet (h : H a = some (SetO w a T n)) (q : Q (.int (n : Nat)) H) : rLenSet w [.ref a] H Q := ⟨a, T, n, rfl, h, q⟩
theorem x_scB {K : PySem.W.Frag} {b : Bool} {p : Addr} {xs : List V} (hq : SqB b K H p xs) (Pv : Addr → Nat → Hp → Prop) (h0 : ∀ D, H D = none → Pv D 0 (upd H D (SetO w D (fun _ => false) 0))) (hG : ∀ D i H, Pv D i H → SqB b K H p xs)
    (hs : ∀ D i x H, xs[i]? = some x → Pv D i H → g x (wipe σ vs) H fun σ2 H2 => wipe σ2 vs = wipe σ vs ∧ tt σ2 H2 fun b H3 =>
      if b = true then te σ2 H3 fun y H4 => ∃ (k : Int) (S : Int → Bool) (n : Nat), y = .int k ∧ H4 D = some (SetO w D S n) ∧ n + 1 < scanBound ∧ Pv D (i + 1) (upd H4 D (SetO w D (fun j => S j || decide (j = k)) (if S k = true then n else n + 1))) else Pv D (i + 1) H3) (hd : ∀ D H, Pv D xs.length H → Q (.ref D) H) :
    ∃ a, V.ref p = .ref a ∧ (((∃ xs, SqL K H a xs) ∧ ScW w (Itl K a) σ H Q g tt te vs) ∨ ((∃ xs, SqT K H a xs) ∧ ScW w (Itt K a) σ H Q g tt te vs)) :=
  x_sqR (R := fun J H => ScW w J σ H Q g tt te vs) hq (scW_it walk_b Pv h0 (fun D i H _ h => hG D i H h) (fun D i x H H' hi hp y => by
    obtain ⟨rfl, hx⟩ := y
    exact hs D i x H' hx hp) hd)
/-- sorted({..}), len({..}): whatever the world's order of sets -/
def tSortSc (wi : TI) (g : TG) (tt : TT) (te : TE) (vs : List Nat) : TE := fun σ H Q => ∀ w, tScI w wi g tt te vs σ H fun v H1 => rSortedSet w [v] H1 Q
def tLenSc (wi : TI) (g : TG) (tt : TT) (te : TE) (vs : List Nat) : TE := fun σ H Q => ∀ w, tScI w wi g tt te vs σ H fun v H1 => rLenSet w [v] H1 Q
theorem x_sortSc (h : ∀ w, wi σ H fun J H1 => ScW w J σ H1 (fun v H1 => rSortedSet w [v] H1 Q) g tt te vs) : tSortSc wi g tt te vs σ H Q := h
theorem x_lenSc (h : ∀ w, wi σ H fun J H1 => ScW w J σ H1 (fun v H1 => rLenSet w [v] H1 Q) g tt te vs) : tLenSc wi g tt te vs σ H Q := h
theorem pe_weak {X : Cx} {e : Expr} {t t' : TE} (h : PE X e t) (k : ∀ σ H Q, t' σ H Q → t σ H Q) : PE X e t' := ⟨fun pins s σ H Q I q => h.run pins s σ H Q I (k σ H Q q)⟩
end
end My

namespace My
open PySem PySem.Spec L2
local macro_rules | `(tactic| walk_at "m") => `(tactic| first | exact List.Mem.head _ | (refine List.Mem.tail _ ?_; first | exact List.Mem.head _ | (refine List.Mem.tail _ ?_; first | exact List.Mem.head _ | (refine List.Mem.tail _ ?_; first | exact List.Mem.head _ | (refine List.Mem.tail _ ?_; first | exact List.Mem.head _ | (refine List.Mem.tail _ ?_; first | exact List.Mem.head _ | (refine List.Mem.tail _ ?_; first | exact List.Mem.head _ | (refine List.Mem.tail _ ?_; exact List.Mem.head _))))))))
local macro_rules | `(tactic| walk_at "sx1") => `(tactic| first
  | with_reducible refine x_seq ?_
  | with_reducible refine x_asg ?_
  | ((with_reducible refine x_gname ?_); (try dsimp only [List.set_cons_succ, List.set_cons_zero]))
  | with_reducible refine x_next ?_
  | with_reducible refine x_ret ?_
  | with_reducible refine x_drop ?_
  | with_reducible refine x_ifs ?_
  | ((with_reducible refine x_var (v := ?v) ?hv ?_); (case hv => exact rfl))
  | with_reducible refine x_c ?_
  | with_reducible refine x_op ?_
  | with_reducible refine x_un ?_
  | with_reducible refine x_test ?_
  | with_reducible refine x_bl ?_
  | with_reducible refine x_tr ?_
  | with_reducible refine x_trB ?_
  | with_reducible refine x_and ?_
  | with_reducible refine x_or ?_
  | with_reducible refine x_not ?_
  | with_reducible refine x_ifE ?_
  | with_reducible refine x_chain ?_
  | with_reducible refine x_andV ?_
  | with_reducible refine x_orV ?_
  | with_reducible refine x_notV ?_
  | with_reducible refine x_cons ?_
  | with_reducible refine x_nil ?_
  | with_reducible refine x_tup ?_
  | with_reducible refine x_lst ?_
  | with_reducible refine x_call ?_
  | with_reducible refine x_cb ?_
  | with_reducible refine x_bm ?_
  | with_reducible refine x_gsub ?_
  | with_reducible refine x_sl ?_
  | with_reducible refine x_np ?_
  | with_reducible refine x_pt ?_
  | with_reducible refine x_exi ?_
  | with_reducible refine x_gcons ?_
  | with_reducible refine x_gnil ?_
  | with_reducible refine x_m1 ?_
  | with_reducible refine x_isS ?_
  | with_reducible refine x_callN ?_
  | with_reducible refine x_forW ?_
  | with_reducible refine x_lcW ?_
  | with_reducible refine x_iSq ?_
  | with_reducible refine x_iEn ?_
  | with_reducible refine x_fld ?_
  | with_reducible refine x_con ?_
  | with_reducible refine x_meth ?_
  | with_reducible refine x_make ?_
  | with_reducible refine x_makeK ?_
  | with_reducible refine x_sfld ?_
  | with_reducible refine x_callSD ?_
  | with_reducible refine x_raiseM ?_
  | with_reducible refine x_try ?_
  | with_reducible refine x_xf ?_
  | with_reducible refine x_dget ?_
  | with_reducible refine x_din ?_
  | with_reducible refine x_dnin ?_
  | with_reducible refine x_dput ?_
  | with_reducible refine x_nnin ?_
  | with_reducible refine x_nget ?_
  | with_reducible refine x_nput ?_
  | with_reducible refine x_iKeys ?_
  | with_reducible refine x_iItems ?_
  | with_reducible refine x_tB ?_
  | with_reducible refine x_bm0 ?_
  | with_reducible refine x_lrg1 ?_
  | with_reducible refine x_lrg2 ?_
  | with_reducible refine x_max ?_
  | with_reducible refine x_min ?_
  | with_reducible refine x_iR1 ?_
  | with_reducible refine x_iR2 ?_
  | with_reducible refine x_iStr ?_
  | with_reducible refine x_yes0 ?_
  | with_reducible refine x_retN ?_
  | with_reducible refine x_cont ?_
  | with_reducible refine x_brk ?_
  | with_reducible refine x_addI ?_
  | with_reducible refine x_I0 ?_
  | with_reducible refine x_neg ?_
  | with_reducible refine x_inS ?_
  | with_reducible refine x_ninS ?_
  | with_reducible refine x_band ?_
  | with_reducible refine x_bor ?_
  | with_reducible refine x_bxor ?_
  | with_reducible refine x_eqI ?_
  | with_reducible refine x_neI ?_
  | with_reducible refine x_int ?_
  | with_reducible refine x_intB0 ?_
  | with_reducible refine x_intB1 ?_
  | with_reducible refine x_abs ?_
  | with_reducible refine x_isN ?_
  | with_reducible refine x_isB ?_
  | with_reducible refine x_notN ?_
  | with_reducible refine iteF ?_
  | with_reducible refine x_ntF ?_
  | with_reducible refine x_ntT ?_
  | with_reducible refine iteT ?_
  | ((with_reducible refine x_pow ?hc ?_); (case hc => exact ⟨by decide, by decide, by decide⟩))
  | ((with_reducible refine x_div (cdiv ?hc ?hd) ?_); (case hc => first | decide | omega); (case hd => first | decide | omega))
  | ((with_reducible refine x_mulI (cmul_l ?hc) ?_); (case hc => first | decide | omega))
  | ((with_reducible refine x_mulI (cmul_r ?hc) ?_); (case hc => first | decide | omega))
  | ((with_reducible refine x_mod ?hc ?_); (case hc => first | decide | omega))
  | ((with_reducible refine x_ixC (xs := ?xs) (v := ?v) (by assumption) ?hm ?he ?_); (case hm => walk_at "m"); (case he => exact rfl))
  | ((with_reducible refine x_lenC (xs := ?xs) (by assumption) ?hm ?_); (case hm => walk_at "m"))
  | ((with_reducible refine x_tyC (xs := ?xs) (by assumption) ?hm ?_); (case hm => walk_at "m")))
local macro_rules | `(tactic| walk_at "sx") => `(tactic| repeat walk_at "sx1")
local macro_rules | `(tactic| walk_at "wipe") => `(tactic| (dsimp only [wipe, List.set_cons_succ, List.set_cons_zero]))
local macro_rules | `(tactic| walk_at "gn") => `(tactic| (with_reducible refine x_gname ?_; dsimp only [List.set_cons_succ, List.set_cons_zero]))

def top (i : Nat) : Stmt := PySem.Challenge.pw_gatesofcloth_k79_whole_resets_or_never.main.body.getD i (.Pass ⟨0, 0, 0, 0⟩)
abbrev s_check_feed : Stmt := top 21
def dd_check_feed : He.DefD := ⟨("check_feed", none), "check_feed", "check_feed", defArgs s_check_feed, defBody s_check_feed, defScope s_check_feed, [], []⟩
abbrev s_state_from : Stmt := top 22
def dd_state_from : He.DefD := ⟨("state_from", none), "state_from", "state_from", defArgs s_state_from, defBody s_state_from, defScope s_state_from, [], []⟩
abbrev s_is_entry : Stmt := top 24
def dd_is_entry : He.DefD := ⟨("_is_entry", none), "_is_entry", "_is_entry", defArgs s_is_entry, defBody s_is_entry, defScope s_is_entry, [], []⟩
abbrev s_Control__init : Stmt := inClass (top 25) 3
def dd_Control__init : He.DefD := ⟨("Control", some "__init__"), "__init__", "Control.__init__", defArgs s_Control__init, defBody s_Control__init, defScope s_Control__init, [], [("start", .int 0)]⟩
abbrev s_Control_entry : Stmt := inClass (top 25) 6
def dd_Control_entry : He.DefD := ⟨("Control", some "entry"), "entry", "Control.entry", defArgs s_Control_entry, defBody s_Control_entry, defScope s_Control_entry, [], []⟩
abbrev s_Search__init : Stmt := inClass (top 27) 0
def dd_Search__init : He.DefD := ⟨("Search", some "__init__"), "__init__", "Search.__init__", defArgs s_Search__init, defBody s_Search__init, defScope s_Search__init, [], []⟩
abbrev s_Search_take : Stmt := inClass (top 27) 1
def dd_Search_take : He.DefD := ⟨("Search", some "take"), "take", "Search.take", defArgs s_Search_take, defBody s_Search_take, defScope s_Search_take, [], []⟩
abbrev s_Search_feed_to : Stmt := inClass (top 27) 2
def dd_Search_feed_to : He.DefD := ⟨("Search", some "feed_to"), "feed_to", "Search.feed_to", defArgs s_Search_feed_to, defBody s_Search_feed_to, defScope s_Search_feed_to, [], []⟩
abbrev s_ordered : Stmt := top 31
def dd_ordered : He.DefD := ⟨("_ordered", none), "_ordered", "_ordered", defArgs s_ordered, defBody s_ordered, defScope s_ordered, [], []⟩
abbrev s_following : Stmt := top 32
def dd_following : He.DefD := ⟨("_following", none), "_following", "_following", defArgs s_following, defBody s_following, defScope s_following, [], []⟩
abbrev s_merging_search : Stmt := top 33
def dd_merging_search : He.DefD := ⟨("_merging_search", none), "_merging_search", "_merging_search", defArgs s_merging_search, defBody s_merging_search, defScope s_merging_search, [], []⟩
abbrev s_reset_verdict : Stmt := top 34
def dd_reset_verdict : He.DefD := ⟨("reset_verdict", none), "reset_verdict", "reset_verdict", defArgs s_reset_verdict, defBody s_reset_verdict, defScope s_reset_verdict, [], []⟩
abbrev s_shows_reset : Stmt := top 35
def dd_shows_reset : He.DefD := ⟨("shows_reset", none), "shows_reset", "shows_reset", defArgs s_shows_reset, defBody s_shows_reset, defScope s_shows_reset, [], []⟩
abbrev s_shows_never : Stmt := top 36
def dd_shows_never : He.DefD := ⟨("shows_never", none), "shows_never", "shows_never", defArgs s_shows_never, defBody s_shows_never, defScope s_shows_never, [], []⟩
abbrev s_law_pool : Stmt := top 38
def dd_law_pool : He.DefD := ⟨("_law_pool", none), "_law_pool", "_law_pool", defArgs s_law_pool, defBody s_law_pool, defScope s_law_pool, [], []⟩
abbrev s_law_draw : Stmt := top 39
def dd_law_draw : He.DefD := ⟨("_law_draw", none), "_law_draw", "_law_draw", defArgs s_law_draw, defBody s_law_draw, defScope s_law_draw, [], []⟩
abbrev s_law_same : Stmt := top 40
def dd_law_same : He.DefD := ⟨("_law_same", none), "_law_same", "_law_same", defArgs s_law_same, defBody s_law_same, defScope s_law_same, [], []⟩
abbrev s_law_is_feed : Stmt := top 41
def dd_law_is_feed : He.DefD := ⟨("_law_is_feed", none), "_law_is_feed", "_law_is_feed", defArgs s_law_is_feed, defBody s_law_is_feed, defScope s_law_is_feed, [], []⟩
abbrev s_law_asked : Stmt := top 42
def dd_law_asked : He.DefD := ⟨("_law_asked", none), "_law_asked", "_law_asked", defArgs s_law_asked, defBody s_law_asked, defScope s_law_asked, [], []⟩
abbrev s_law_nexts : Stmt := top 43
def dd_law_nexts : He.DefD := ⟨("_law_nexts", none), "_law_nexts", "_law_nexts", defArgs s_law_nexts, defBody s_law_nexts, defScope s_law_nexts, [], []⟩
abbrev s_law_turning : Stmt := top 44
def dd_law_turning : He.DefD := ⟨("_law_turning", none), "_law_turning", "_law_turning", defArgs s_law_turning, defBody s_law_turning, defScope s_law_turning, [], []⟩
abbrev s_law_made : Stmt := top 45
def dd_law_made : He.DefD := ⟨("_law_made", none), "_law_made", "_law_made", defArgs s_law_made, defBody s_law_made, defScope s_law_made, [], []⟩
abbrev s_law_merging : Stmt := top 46
def dd_law_merging : He.DefD := ⟨("_law_merging", none), "_law_merging", "_law_merging", defArgs s_law_merging, defBody s_law_merging, defScope s_law_merging, [], []⟩
abbrev s_law_never : Stmt := top 47
def dd_law_never : He.DefD := ⟨("_law_never", none), "_law_never", "_law_never", defArgs s_law_never, defBody s_law_never, defScope s_law_never, [], []⟩
abbrev s_law_ends : Stmt := top 48
def dd_law_ends : He.DefD := ⟨("_law_ends", none), "_law_ends", "_law_ends", defArgs s_law_ends, defBody s_law_ends, defScope s_law_ends, [], []⟩
abbrev s_law_rows_of_pairs : Stmt := top 49
def dd_law_rows_of_pairs : He.DefD := ⟨("_law_rows_of_pairs", none), "_law_rows_of_pairs", "_law_rows_of_pairs", defArgs s_law_rows_of_pairs, defBody s_law_rows_of_pairs, defScope s_law_rows_of_pairs, [], []⟩
abbrev s_law : Stmt := top 50
def dd_law : He.DefD := ⟨("law", none), "law", "law", defArgs s_law, defBody s_law, defScope s_law, [], []⟩
def fn : List He.DefD := ([dd_check_feed, dd_state_from, dd_is_entry, dd_Control__init, dd_Control_entry, dd_Search__init, dd_Search_take, dd_Search_feed_to] : List He.DefD) ++ ([dd_ordered, dd_following, dd_merging_search, dd_reset_verdict, dd_shows_reset, dd_shows_never, dd_law_pool, dd_law_draw] : List He.DefD) ++ ([dd_law_same, dd_law_is_feed, dd_law_asked, dd_law_nexts, dd_law_turning, dd_law_made, dd_law_merging, dd_law_never] : List He.DefD) ++ ([dd_law_ends, dd_law_rows_of_pairs, dd_law] : List He.DefD)
def fa : List He.Fa := ([.glo "law", .free "enumerate", .meth "Control" "entry", .cls "Control", .noat "Control" "rows", .free "len", .free "all", .free "tuple"] : List He.Fa) ++ ([.noat "Control" "start", .noat "Control" "states", .noat "Control" "replies", .noat "Control" "cues", .cls "Search", .noat "Search" "_origins", .noat "Search" "places", .free "range"] : List He.Fa) ++ ([.meth "Search" "take", .mkr "Search", .glo "Search", .str "RESETS" "resets", .free "sorted", .meth "Search" "feed_to", .str "NEVER" "never", .free "list"] : List He.Fa) ++ ([.free "int", .free "abs", .free "isinstance", .free "dict", .free "str", .free "bool", .exm "FeedError" "FabricError" true, .free "ValueError"] : List He.Fa) ++ ([.glo "ExchangeError", .glo "FeedError", .glo "ControlError", .glo "SizeError", .glo "CommandError", .glo "HistoryError", .glo "StoreError", .glo "TapeError"] : List He.Fa) ++ ([.glo "PathError", .glo "EdgeError", .glo "ColouringError", .glo "FanoutError", .glo "NetlistError", .glo "CircuitError", .glo "ProgramError", .glo "MachineError"] : List He.Fa) ++ ([.glo "BitsError", .glo "FabricError", .mkr "Control", .glo "Control", .glo "check_feed", .glo "state_from", .glo "_is_entry", .glo "_ordered"] : List He.Fa) ++ ([.glo "_following", .glo "_merging_search", .glo "reset_verdict", .glo "shows_reset", .glo "shows_never", .glo "_law_pool", .glo "_law_draw", .glo "_law_same"] : List He.Fa) ++ ([.glo "_law_is_feed", .glo "_law_asked", .glo "_law_nexts", .glo "_law_turning", .glo "_law_made", .glo "_law_merging", .glo "_law_never", .glo "_law_ends"] : List He.Fa) ++ ([.glo "_law_rows_of_pairs", .free "super"] : List He.Fa)
def ex (K : PySem.W.Frag) : Bool := He.conB K "Control" "MOST_STATES" (.int 64) && He.conB K "Control" "MOST_CUES" (.int 16) && He.conB K "Control" "MOST_REPLIES" (.int 256) && decide (PySem.W.kitOne K (.ref (He.ga K "FeedError")) (.type "ValueError") = some true) && decide (PySem.W.kitOne K (.ref (He.ga K "FeedError")) (.ref (He.ga K "ExchangeError")) = some false) && decide (PySem.W.kitOne K (.ref (He.ga K "FeedError")) (.ref (He.ga K "FeedError")) = some true) && decide (PySem.W.kitOne K (.ref (He.ga K "FeedError")) (.ref (He.ga K "ControlError")) = some false) && decide (PySem.W.kitOne K (.ref (He.ga K "FeedError")) (.ref (He.ga K "SizeError")) = some false) && decide (PySem.W.kitAny K (.ref (He.ga K "FeedError")) [.ref (He.ga K "PathError"), .ref (He.ga K "TapeError"), .ref (He.ga K "StoreError"), .ref (He.ga K "HistoryError"), .ref (He.ga K "CommandError")] = some false) && decide (PySem.W.kitAny K (.ref (He.ga K "FeedError")) [.ref (He.ga K "CircuitError"), .ref (He.ga K "NetlistError"), .ref (He.ga K "FanoutError"), .ref (He.ga K "ColouringError"), .ref (He.ga K "EdgeError")] = some false) && decide (PySem.W.kitAny K (.ref (He.ga K "FeedError")) [.ref (He.ga K "BitsError"), .ref (He.ga K "MachineError"), .ref (He.ga K "ProgramError")] = some false) && erB K (He.ga K "FeedError") && true
abbrev s_err_FeedError : Stmt := inClass (top 18) 0
def ed_FeedError : ErrD := ⟨"FeedError", "FeedError.__init__", defArgs s_err_FeedError, defBody s_err_FeedError, defScope s_err_FeedError, "index"⟩
def es : List ErrD := [ed_FeedError]
def cms : List He5.DefA := []
def FILE : Str := PySem.Challenge.pw_gatesofcloth_k79_whole_resets_or_never.main.file
structure KF (K : PySem.W.Frag) : Prop where
  fact : ∀ (i : Nat) {f : He.Fa}, fa[i]? = some f → f.ok K = true
  ex : ex K = true
theorem kcon_Control_MOST_STATES {K : PySem.W.Frag} (κ : KF K) : ∃ u, Con K (He.ga K "Control") "MOST_STATES" (.int 64) u := He.conB_ok (v := .int 64) ((He.ba (He.ba (He.ba (He.ba (He.ba (He.ba (He.ba (He.ba (He.ba (He.ba (He.ba (He.ba κ.ex).1).1).1).1).1).1).1).1).1).1).1).1)
theorem kcon_Control_MOST_CUES {K : PySem.W.Frag} (κ : KF K) : ∃ u, Con K (He.ga K "Control") "MOST_CUES" (.int 16) u := He.conB_ok (v := .int 16) ((He.ba (He.ba (He.ba (He.ba (He.ba (He.ba (He.ba (He.ba (He.ba (He.ba (He.ba (He.ba κ.ex).1).1).1).1).1).1).1).1).1).1).1).2)
theorem kcon_Control_MOST_REPLIES {K : PySem.W.Frag} (κ : KF K) : ∃ u, Con K (He.ga K "Control") "MOST_REPLIES" (.int 256) u := He.conB_ok (v := .int 256) ((He.ba (He.ba (He.ba (He.ba (He.ba (He.ba (He.ba (He.ba (He.ba (He.ba (He.ba κ.ex).1).1).1).1).1).1).1).1).1).1).2)
theorem kis_FeedError_ValueError {K : PySem.W.Frag} (κ : KF K) : PySem.W.kitOne K (.ref (He.ga K "FeedError")) (.type "ValueError") = some true := of_decide_eq_true ((He.ba (He.ba (He.ba (He.ba (He.ba (He.ba (He.ba (He.ba (He.ba (He.ba κ.ex).1).1).1).1).1).1).1).1).1).2)
theorem kis_FeedError_ExchangeError {K : PySem.W.Frag} (κ : KF K) : PySem.W.kitOne K (.ref (He.ga K "FeedError")) (.ref (He.ga K "ExchangeError")) = some false := of_decide_eq_true ((He.ba (He.ba (He.ba (He.ba (He.ba (He.ba (He.ba (He.ba (He.ba κ.ex).1).1).1).1).1).1).1).1).2)
theorem kis_FeedError_FeedError {K : PySem.W.Frag} (κ : KF K) : PySem.W.kitOne K (.ref (He.ga K "FeedError")) (.ref (He.ga K "FeedError")) = some true := of_decide_eq_true ((He.ba (He.ba (He.ba (He.ba (He.ba (He.ba (He.ba (He.ba κ.ex).1).1).1).1).1).1).1).2)
theorem kis_FeedError_ControlError {K : PySem.W.Frag} (κ : KF K) : PySem.W.kitOne K (.ref (He.ga K "FeedError")) (.ref (He.ga K "ControlError")) = some false := of_decide_eq_true ((He.ba (He.ba (He.ba (He.ba (He.ba (He.ba (He.ba κ.ex).1).1).1).1).1).1).2)
theorem kis_FeedError_SizeError {K : PySem.W.Frag} (κ : KF K) : PySem.W.kitOne K (.ref (He.ga K "FeedError")) (.ref (He.ga K "SizeError")) = some false := of_decide_eq_true ((He.ba (He.ba (He.ba (He.ba (He.ba (He.ba κ.ex).1).1).1).1).1).2)
theorem kis_FeedError_PathError_TapeError_StoreError_HistoryError_CommandError {K : PySem.W.Frag} (κ : KF K) : PySem.W.kitAny K (.ref (He.ga K "FeedError")) [.ref (He.ga K "PathError"), .ref (He.ga K "TapeError"), .ref (He.ga K "StoreError"), .ref (He.ga K "HistoryError"), .ref (He.ga K "CommandError")] = some false := of_decide_eq_true ((He.ba (He.ba (He.ba (He.ba (He.ba κ.ex).1).1).1).1).2)
theorem kis_FeedError_CircuitError_NetlistError_FanoutError_ColouringError_EdgeError {K : PySem.W.Frag} (κ : KF K) : PySem.W.kitAny K (.ref (He.ga K "FeedError")) [.ref (He.ga K "CircuitError"), .ref (He.ga K "NetlistError"), .ref (He.ga K "FanoutError"), .ref (He.ga K "ColouringError"), .ref (He.ga K "EdgeError")] = some false := of_decide_eq_true ((He.ba (He.ba (He.ba (He.ba κ.ex).1).1).1).2)
theorem kis_FeedError_BitsError_MachineError_ProgramError {K : PySem.W.Frag} (κ : KF K) : PySem.W.kitAny K (.ref (He.ga K "FeedError")) [.ref (He.ga K "BitsError"), .ref (He.ga K "MachineError"), .ref (He.ga K "ProgramError")] = some false := of_decide_eq_true ((He.ba (He.ba (He.ba κ.ex).1).1).2)
theorem ker_FeedError {K : PySem.W.Frag} (κ : KF K) : ExcC K (He.ga K "FeedError") ∧ XfC K (He.ga K "FeedError") := erB_ok ((He.ba (He.ba κ.ex).1).2)
theorem kfld_Control_rows {K : PySem.W.Frag} (κ : KF K) : FldK K (He.ga K "Control") "rows" := ⟨(He.cls_ok (κ.fact 3 (f := .cls "Control") rfl)), (He.noat_ok (κ.fact 4 (f := .noat "Control" "rows") rfl))⟩
theorem kfld_Control_start {K : PySem.W.Frag} (κ : KF K) : FldK K (He.ga K "Control") "start" := ⟨(He.cls_ok (κ.fact 3 (f := .cls "Control") rfl)), (He.noat_ok (κ.fact 8 (f := .noat "Control" "start") rfl))⟩
theorem kfld_Control_states {K : PySem.W.Frag} (κ : KF K) : FldK K (He.ga K "Control") "states" := ⟨(He.cls_ok (κ.fact 3 (f := .cls "Control") rfl)), (He.noat_ok (κ.fact 9 (f := .noat "Control" "states") rfl))⟩
theorem kfld_Control_replies {K : PySem.W.Frag} (κ : KF K) : FldK K (He.ga K "Control") "replies" := ⟨(He.cls_ok (κ.fact 3 (f := .cls "Control") rfl)), (He.noat_ok (κ.fact 10 (f := .noat "Control" "replies") rfl))⟩
theorem kfld_Control_cues {K : PySem.W.Frag} (κ : KF K) : FldK K (He.ga K "Control") "cues" := ⟨(He.cls_ok (κ.fact 3 (f := .cls "Control") rfl)), (He.noat_ok (κ.fact 11 (f := .noat "Control" "cues") rfl))⟩
theorem kcls_Control {K : PySem.W.Frag} (κ : KF K) : Cls K (He.ga K "Control") := (He.cls_ok (κ.fact 3 (f := .cls "Control") rfl))
theorem kfld_Search__origins {K : PySem.W.Frag} (κ : KF K) : FldK K (He.ga K "Search") "_origins" := ⟨(He.cls_ok (κ.fact 12 (f := .cls "Search") rfl)), (He.noat_ok (κ.fact 13 (f := .noat "Search" "_origins") rfl))⟩
theorem kfld_Search_places {K : PySem.W.Frag} (κ : KF K) : FldK K (He.ga K "Search") "places" := ⟨(He.cls_ok (κ.fact 12 (f := .cls "Search") rfl)), (He.noat_ok (κ.fact 14 (f := .noat "Search" "places") rfl))⟩
theorem kexm_FeedError_FabricError {K : PySem.W.Frag} (κ : KF K) : PySem.W.exmOne K (.ref (He.ga K "FeedError")) (.ref (He.ga K "FabricError")) = some true := (He.exm_ok (κ.fact 30 (f := .exm "FeedError" "FabricError" true) rfl))
structure Zz (P : Program) (w : World) (K : PySem.W.Frag) (mg : Str → Option Value) (base : Heap) : Prop where
  X : K.In base
  G : base.Ns mainGlobals mg
  c : He.SaysD fa fn K
  k : KF K
  op : PySem.W.nsIn K cStatics "thirdparty.any" = some none
  pf : (P.main.file == FILE) = true
  pt : (P.main.scope.names.lookup ("super" : Str)).isSome = false
  er : ∀ (i : Nat) {d : ErrD}, es[i]? = some d → ErrK K d FILE
  cm : ∀ (i : Nat) {d : He5.DefA}, cms[i]? = some d → ∃ fd, L2.FunD K d.name d.qual d.params d.body d.scope (d.dvs K) (d.kws K) (d.at_ K) fd
section
variable {P : Program} {w : World} {K : PySem.W.Frag} {mg : Str → Option Value} {base : Heap}
theorem Zz.fact (Z : Zz P w K mg base) (i : Nat) {f : He.Fa} (h : fa[i]? = some f := by rfl) : f.ok K = true := Z.c.fact i h
theorem Zz.err (Z : Zz P w K mg base) (i : Nat) {d : ErrD} (h : es[i]? = some d := by rfl) : ErrK K d FILE := Z.er i h
end
def g_kb_Control__init_3_start : List V → List V → List V := fun vs zs => vs ++ (zs)
/-! ### _is_entry: slots 0 entry 1 states 2 replies 3 following 4 reply -/
/-! ### a control -/
structure CD where
  cues : Int
  replies : Int
  rows : List (List (Int × Int))
  start : Int
def rowD (row : List (Int × Int)) : PyData := .tuple (row.map fun e => .tuple [.int e.1, .int e.2])
/-- at r stand the rows: a list or a tuple -/
def RowsB (b : Bool) (K : PySem.W.Frag) (B : Hp) (r : Addr) (rows : List (List (Int × Int))) : Prop := ∃ xs, SqB b K B r xs ∧ DpAll K B xs (rows.map rowD)
instance {b : Bool} {K : PySem.W.Frag} {r : Addr} {rows : List (List (Int × Int))} : Mono (fun B => RowsB b K B r rows) := ⟨fun B B' e ⟨xs, h, k⟩ => ⟨xs, Mono.up (F := fun B => SqB b K B r xs) B B' e h, dpAll_up e k⟩⟩
/-- .. a list that stands as it is -/
def RowsL (K : PySem.W.Frag) (B : Hp) (r : Addr) (rows : List (List (Int × Int))) : Prop := ∃ xs, B r = some (.lst xs) ∧ DpAll K B xs (rows.map rowD)
instance {K : PySem.W.Frag} {r : Addr} {rows : List (List (Int × Int))} : Mono (fun B => RowsL K B r rows) := ⟨fun B B' e ⟨xs, h, k⟩ => ⟨xs, e _ _ h, dpAll_up e k⟩⟩
theorem RowsL.b {K : PySem.W.Frag} {B : Hp} {r : Addr} {rows : List (List (Int × Int))} (h : RowsL K B r rows) : RowsB true K B r rows := let ⟨xs, h, k⟩ := h; ⟨xs, sq_l h, k⟩
theorem dp_pairI {K : PySem.W.Frag} {B : Hp} {v : V} {i j : Int} (h : Dp K B v (.tuple [.int i, .int j])) : ∃ z, v = .ref z ∧ SqT K B z [.int i, .int j] := dp_pair h
/-- a row of a sequence of rows: its item, and its entries' items -/
theorem row_at {K : PySem.W.Frag} {B : Hp} {xs : List V} {rows : List (List (Int × Int))} (h : DpAll K B xs (rows.map rowD)) {i : Nat} {row : List (Int × Int)} (hi : rows[i]? = some row) : ∃ q ys, xs[i]? = some (.ref q) ∧ SqT K B q ys ∧ DpAll K B ys (row.map fun e => .tuple [.int e.1, .int e.2]) := by
  have e : (rows.map rowD)[i]? = some (rowD row) := by rw [List.getElem?_map, hi]; rfl
  obtain ⟨v, hv, dv⟩ := dpAll_get h e
  unfold rowD at dv
  cases dv with
  | tup h k => exact ⟨_, _, hv, h, k⟩
theorem ent_at {K : PySem.W.Frag} {B : Hp} {ys : List V} {row : List (Int × Int)} (h : DpAll K B ys (row.map fun e => .tuple [.int e.1, .int e.2])) {j : Nat} {e : Int × Int} (hj : row[j]? = some e) : ∃ z, ys[j]? = some (.ref z) ∧ SqT K B z [.int e.1, .int e.2] := by
  have q : (row.map fun e => PyData.tuple [.int e.1, .int e.2])[j]? = some (.tuple [.int e.1, .int e.2]) := by rw [List.getElem?_map, hj]; rfl
  obtain ⟨v, hv, dv⟩ := dpAll_get h q
  obtain ⟨z, rfl, hz⟩ := dp_pair dv
  exact ⟨z, hv, hz⟩
def entD (row : List (Int × Int)) : List PyData := row.map fun e => .tuple [.int e.1, .int e.2]
/-- the i-th row, its items as a fact -/
theorem S.row {K : PySem.W.Frag} {F : Hp → Prop} {cs : List (Addr × HO)} {H : Hp} {xs : List V} {rows : List (List (Int × Int))} (s : S F cs H) (hF : ∀ B, F B → DpAll K B xs (rows.map rowD)) {i : Nat} {row : List (Int × Int)} (hi : rows[i]? = some row) :
    ∃ q zs, xs[i]? = some (.ref q) ∧ S (fun B => (SqB false K B q zs ∧ DpAll K B zs (entD row)) ∧ F B) cs H := by
  have mF := s.mono
  obtain ⟨q, _, hq, _, _⟩ := row_at (hF _ s.fact) hi
  obtain ⟨zs, s⟩ := (s.imp (G := fun B => ∃ zs, (SqB false K B q zs ∧ DpAll K B zs (entD row)) ∧ F B) fun B f => by
    obtain ⟨q', zs, e, h1, h2⟩ := row_at (hF B f) hi
    rw [hq] at e
    cases e
    exact ⟨zs, ⟨h1, h2⟩, f⟩).exE
  exact ⟨q, zs, hq, s⟩
def entOk (states replies : Int) (e : Int × Int) : Prop := (0 ≤ e.1 ∧ e.1 < states) ∧ 0 ≤ e.2 ∧ e.2 < replies
/-- what a control must be -/
structure GoodN (N : Nat) (cues replies : Int) (rows : List (List (Int × Int))) (start : Int) : Prop where
  c : 1 ≤ cues ∧ cues ≤ 16
  r : 1 ≤ replies ∧ replies ≤ 256
  s : 1 ≤ rows.length ∧ rows.length ≤ N
  st : 0 ≤ start ∧ start < rows.length
  row : ∀ row ∈ rows, (row.length : Int) = cues ∧ ∀ e ∈ row, entOk rows.length replies e
abbrev GoodC := GoodN 64
def CD.goodN (N : Nat) (c : CD) : Prop := GoodN N c.cues c.replies c.rows c.start
def CD.good (c : CD) : Prop := c.goodN 64
def ctlF (c : CD) (r : Addr) : List (Str × V) := [("cues", .int c.cues), ("replies", .int c.replies), ("states", .int c.rows.length), ("start", .int c.start), ("rows", .ref r)]
/-- at x stands the control c -/
def Ctl (K : PySem.W.Frag) (B : Hp) (x : Addr) (c : CD) : Prop := ∃ r dx, B x = some (.ins (He.ga K "Control") dx (ctlF c r)) ∧ RowsB false K B r c.rows
instance {K : PySem.W.Frag} {x : Addr} {c : CD} : Mono (fun B => Ctl K B x c) := ⟨fun B B' e ⟨r, dx, h, k⟩ => ⟨r, dx, e _ _ h, Mono.up (F := fun B => RowsB false K B r c.rows) B B' e k⟩⟩
theorem x_listRows {K : PySem.W.Frag} {F : Hp → Prop} {cs : List (Addr × HO)} {H : Hp} {Q : VK} {r : Addr} {b : Bool} {rows : List (List (Int × Int))} (hF : ∀ B, F B → RowsB b K B r rows) (s : S F cs H) (k : ∀ l H', S (fun B => RowsB true K B l rows ∧ F B) cs H' → Q (.ref l) H') : rList1 K [.ref r] H Q := by
  have mF := s.mono
  obtain ⟨xs, s⟩ := (s.imp (G := fun B => ∃ xs, (SqB b K B r xs ∧ DpAll K B xs (rows.map rowD)) ∧ F B) fun B f => let ⟨xs, h1, h2⟩ := hF B f; ⟨xs, ⟨h1, h2⟩, f⟩).exE
  exact x_listof s.fact.1.1.or s fun l H' s => k l H' (s.freeze fun B f e => ⟨⟨xs, sq_l e, f.1.2⟩, f.2⟩)
theorem x_tupRows {K : PySem.W.Frag} {F : Hp → Prop} {cs : List (Addr × HO)} {H : Hp} {Q : VK} {r : Addr} {b : Bool} {rows : List (List (Int × Int))} (hF : ∀ B, F B → RowsB b K B r rows) (s : S F cs H) (k : ∀ l H', S (fun B => RowsB false K B l rows ∧ F B) cs H' → Q (.ref l) H') : rTuple1 K [.ref r] H Q := by
  have mF := s.mono
  obtain ⟨xs, s⟩ := (s.imp (G := fun B => ∃ xs, (SqB b K B r xs ∧ DpAll K B xs (rows.map rowD)) ∧ F B) fun B f => let ⟨xs, h1, h2⟩ := hF B f; ⟨xs, ⟨h1, h2⟩, f⟩).exE
  exact x_tupB (fun B f => f.1.1) s fun l H' s => k l H' (s.imp fun B f => ⟨⟨xs, f.1, f.2.1.2⟩, f.2.2⟩)
theorem ints_get {ns : List Int} {i : Nat} {x : V} (h : (ns.map V.int)[i]? = some x) : ∃ n, ns[i]? = some n ∧ x = .int n := by
  rw [List.getElem?_map] at h
  obtain ⟨n, h1, h2⟩ := Option.map_eq_some_iff.mp h
  exact ⟨n, h1, h2.symm⟩
def sp_is_entry (K : PySem.W.Frag) : Sp := fun vs H Q _ => ∃ (z : Addr) (e : Int × Int) (states replies : Int), vs = [.ref z, .int states, .int replies] ∧ SqT K H z [.int e.1, .int e.2] ∧ entOk states replies e ∧ Q (.bl true) H
def t_is_entry (K : PySem.W.Frag) (E : XK) : TS := tSeq (tAsg (tVar 0) (gTup K 2 (gCons (gName 3) (gCons (gName 4) (gNil))))) (tRet (tAndV (tChain rLe1 rLt1 (tC (.int 0)) (tVar 3) (tVar 1)) (tChain rLe1 rLt1 (tC (.int 0)) (tVar 4) (tVar 2))))
theorem pure_is_entry {K : PySem.W.Frag} (κ : KF K) (vs : List V) (H : Hp) (Q : VK) (E : XK) (h : sp_is_entry K vs H Q E) : t_is_entry K E ⟨fun _ H' => Q .non H', Q, fun _ _ => False, fun _ _ => False⟩ (start [("entry" : Str), "states", "replies", "following", "reply"] vs) H := by
  unfold t_is_entry
  obtain ⟨z, e, states, replies, rfl, hz, ok, q⟩ := h
  obtain ⟨⟨o1, o2⟩, o3, o4⟩ := ok
  refine x_start (σ' := [some _, some _, some _, none, none]) ?_ rfl
  walk_at "sx"
  refine x_gtup hz rfl ?_
  walk_at "sx"
  refine x_yes (decide_eq_true o1) ?_
  walk_at "sx"
  refine x_yes (decide_eq_true o2) ?_
  walk_at "sx"
  refine x_yes (decide_eq_true o3) ?_
  walk_at "sx"
  rw [decide_eq_true o4]
  exact q
/-! ### Control.__init__: slots 0 self 1 cues 2 replies 3 rows 4 start 5 states 6 state 7 row 8 entry -/
def sp_Control__init (K : PySem.W.Frag) : Sp := fun vs H Q _ => ∃ (F : Hp → Prop) (cs : List (Addr × HO)) (k : Nat) (x dx l : Addr) (b : Bool) (c : CD), vs = [.ref x, .int c.cues, .int c.replies, .ref l, .int c.start] ∧ S F cs H ∧ cs[k]? = some (x, .ins (He.ga K "Control") dx []) ∧
  (∀ B, F B → RowsB b K B l c.rows) ∧ c.good ∧ ∀ r H', S (fun B => RowsB false K B r c.rows ∧ F B) (cs.set k (x, .ins (He.ga K "Control") dx (ctlF c r))) H' → Q .non H'
def t_Control__init (K : PySem.W.Frag) (E : XK) : TS := tSeq (tAsg (tCB (rLen1 K) (tCons (tVar 3) (tNil))) (gName 5)) (tSeq (tIfS (tOr (tNot (tTest (tChain rLe1 rLe1 (tC (.int 1)) (tVar 1) (tCon K (tVar 0) "MOST_CUES")))) (tNot (tTest (tChain rLe1 rLe1 (tC (.int 1)) (tVar 2) (tCon K (tVar 0) "MOST_REPLIES"))))) (tNever) (tNext)) (tSeq (tIfS (tOr (tNot (tTest (tChain rLe1 rLe1 (tC (.int 1)) (tVar 5) (tCon K (tVar 0) "MOST_STATES")))) (tNot (tTest (tChain rLe1 rLt1 (tC (.int 0)) (tVar 4) (tVar 5))))) (tNever) (tNext)) (tSeq (sFld K (tVar 0) (tVar 1) "cues") (tSeq (sFld K (tVar 0) (tVar 2) "replies") (tSeq (sFld K (tVar 0) (tVar 5) "states") (tSeq (sFld K (tVar 0) (tVar 4) "start") (tSeq (sFld K (tVar 0) (tCB (rTuple1 K) (tCons (tVar 3) (tNil))) "rows") (tFor (iEnum1 K (tCons (tFld K (tVar 0) "rows") (tNil))) (gTup K 2 (gCons (gName 6) (gCons (gName 7) (gNil)))) (tIfS (tOr (tTest (tOp (rNe1 K) (tCB (rLen1 K) (tCons (tVar 7) (tNil))) (tVar 1))) (tNot (tTr K (tCB (rAll1 K) (tCons (tLc (iSq K (tVar 7)) (gName 8) (tYes) (tCall (sp_is_entry K) [] E0 (tCons (tVar 8) (tCons (tVar 5) (tCons (tVar 2) (tNil))))) [8]) (tNil)))))) (tNever) (tNext))))))))))
theorem pure_Control__init {K : PySem.W.Frag} (κ : KF K) (vs : List V) (H : Hp) (Q : VK) (E : XK) (h : sp_Control__init K vs H Q E) : t_Control__init K E ⟨fun _ H' => Q .non H', Q, fun _ _ => False, fun _ _ => False⟩ (start [("self" : Str), "cues", "replies", "rows", "start", "states", "state", "row", "entry"] vs) H := by
  unfold t_Control__init
  obtain ⟨F, cs, k, x, dx, l, b, c, rfl, s, hk, hl, g, q⟩ := h
  refine x_start (σ' := [some _, some _, some _, some _, some _, none, none, none, none]) ?_ rfl
  have kc := kcls_Control κ
  have s := s.front hk
  obtain ⟨xs, hx, dk⟩ := hl _ s.fact
  have hlen := dpAll_len dk
  rw [List.length_map] at hlen
  walk_at "sx"
  refine x_lenL hx.or ?_
  rw [hlen]
  walk_at "sx"
  refine x_yes (decide_eq_true g.c.1) ?_
  walk_at "sx"
  refine x_c0 kc (kcon_Control_MOST_CUES κ) (s.at 0 rfl) rfl ?_
  walk_at "sx"
  refine x_ifn (fun h => absurd g.c.2 h) (fun _ => ?_)
  walk_at "sx"
  refine x_yes (decide_eq_true g.r.1) ?_
  walk_at "sx"
  refine x_c0 kc (kcon_Control_MOST_REPLIES κ) (s.at 0 rfl) rfl ?_
  walk_at "sx"
  refine x_ifn (fun h => absurd g.r.2 h) (fun _ => ?_)
  walk_at "sx"
  refine x_yes (decide_eq_true (by have := g.s; omega)) ?_
  walk_at "sx"
  refine x_c0 kc (kcon_Control_MOST_STATES κ) (s.at 0 rfl) rfl ?_
  walk_at "sx"
  refine x_ifn (fun h => absurd (by have := g.s; omega) h) (fun _ => ?_)
  walk_at "sx"
  refine x_yes (decide_eq_true g.st.1) ?_
  walk_at "sx"
  refine x_ifn (fun h => absurd g.st.2 h) (fun _ => ?_)
  walk_at "sx"
  refine x_sf s (kfld_Control_cues κ) (n := 0) rfl (by show 0 < 1000; decide) fun H1 s => ?_
  walk_at "sx"
  refine x_sf s (kfld_Control_replies κ) (n := 0) rfl (by show 1 < 1000; decide) fun H1 s => ?_
  walk_at "sx"
  refine x_sf s (kfld_Control_states κ) (n := 0) rfl (by show 2 < 1000; decide) fun H1 s => ?_
  walk_at "sx"
  refine x_sf s (kfld_Control_start κ) (n := 0) rfl (by show 3 < 1000; decide) fun H1 s => ?_
  walk_at "sx"
  have mF := s.mono
  obtain ⟨xs, s⟩ := (s.imp (G := fun B => ∃ xs, (SqB b K B l xs ∧ DpAll K B xs (c.rows.map rowD)) ∧ F B) fun B f => let ⟨xs, h1, h2⟩ := hl B f; ⟨xs, ⟨h1, h2⟩, f⟩).exE
  refine x_tupB (fun B f => f.1.1) s fun r H1 s => ?_
  have s := s.imp (G := fun B => (SqB false K B r xs ∧ DpAll K B xs (c.rows.map rowD)) ∧ F B) fun B f => ⟨⟨f.1, f.2.1.2⟩, f.2.2⟩
  walk_at "sx"
  refine x_sf s (kfld_Control_rows κ) (n := 0) rfl (by show 4 < 1000; decide) fun H1 s => ?_
  have s : S (fun B => (SqB false K B r xs ∧ DpAll K B xs (c.rows.map rowD)) ∧ F B) ((x, .ins (He.ga K "Control") dx (ctlF c r)) :: cs.eraseIdx k) H1 := s
  have xlen := dpAll_len s.fact.1.2
  rw [List.length_map] at xlen
  walk_at "sx"
  refine x_f (kfld_Control_rows κ) (s.at 0 rfl) rfl ?_
  walk_at "sx"
  refine x_forE s.fact.1.1 (fun i σ' H' => ∃ v w u, σ' = [some (.ref x), some (.int c.cues), some (.int c.replies), some (.ref l), some (.int c.start), some (.int c.rows.length), v, w, u] ∧
    S (fun B => (SqB false K B r xs ∧ DpAll K B xs (c.rows.map rowD)) ∧ F B) ((x, .ins (He.ga K "Control") dx (ctlF c r)) :: cs.eraseIdx k) H') ⟨_, _, _, rfl, s⟩ (fun i σ H h => by obtain ⟨_, _, _, _, s⟩ := h; exact s.fact.1.1) ?_ ?_
  · rintro i y σ' H' T H2 hy ⟨v, w, u, rfl, s⟩ hT rfl
    have s := (s.alloc (o := .tup [.int (i : Nat), y]) hT).drop1
    have hi : i < c.rows.length := by rw [← xlen]; exact (List.getElem?_eq_some_iff.mp hy).1
    have hrow : c.rows[i]? = some c.rows[i] := List.getElem?_eq_getElem hi
    obtain ⟨g1, g2⟩ := g.row _ (List.getElem_mem hi)
    generalize c.rows[i] = row at hrow g1 g2
    obtain ⟨p, zs, hp, s⟩ := s.row (fun B f => f.1.2) hrow
    rw [hy] at hp
    cases hp
    have zlen := dpAll_len s.fact.1.2
    unfold entD at zlen
    rw [List.length_map] at zlen
    walk_at "sx"
    refine x_lenL (.inr s.fact.1.1) ?_
    rw [zlen]
    walk_at "sx"
    refine x_ifn (fun h => absurd g1 h) (fun _ => ?_)
    walk_at "sx"
    refine x_lcFI (b := false) (fun _ => some (.bl true)) s (fun B f => f.1.1) zlen (by have := g.c; omega) ?_ ?_
    · intro D acc j y H Put Skip hy put skip s
      have hj : j < row.length := by rw [← zlen]; exact (List.getElem?_eq_some_iff.mp hy).1
      obtain ⟨z, hz, ez⟩ := ent_at s.fact.1.2 (List.getElem?_eq_getElem hj)
      rw [hy] at hz
      cases hz
      walk_at "wipe"
      walk_at "sx"
      refine ⟨rfl, ?_⟩
      walk_at "sx"
      exact ⟨z, _, _, _, rfl, ez, g2 _ (List.getElem_mem hj), put _ _ rfl s⟩
    · intro D H s
      have e : (List.range row.length).filterMap (fun _ => some (V.bl true)) = (List.replicate row.length true).map V.bl := by
        rw [List.map_replicate, fm_const]
      rw [e] at s
      refine x_all (sq_l (s.at 0 rfl)) ?_
      rw [show (List.replicate row.length true).all id = true by simp]
      walk_at "sx"
      exact ⟨_, _, _, rfl, (s.drop1).imp fun B f => f.2⟩
  · rintro σ' H' ⟨v, w, u, rfl, s⟩
    exact q r H' ((S.back hk s).imp fun B f => ⟨⟨xs, f.1⟩, f.2⟩)
/-- a control made -/
theorem x_ctl {K : PySem.W.Frag} {F : Hp → Prop} {cs : List (Addr × HO)} {H : Hp} {Q : VK} {l : Addr} {b : Bool} {c : CD} {gv : List V → List V} (hg : ∀ x, gv [.ref x] = [.ref x, .int c.cues, .int c.replies, .ref l, .int c.start]) (s : S F cs H) (hl : ∀ B, F B → RowsB b K B l c.rows) (g : c.good)
    (k : ∀ x H', S (fun B => Ctl K B x c ∧ F B) cs H' → Q (.ref x) H') : MakeW (He.ga K "Control") (sp_Control__init K) E0 gv H Q := by
  have mF := s.mono
  refine x_new2 s fun x dx H' s => ⟨F, _, 0, x, dx, l, b, c, hg x, s, rfl, hl, g, fun r H' s => ⟨rfl, k x H' ?_⟩⟩
  exact (S.freeze (G := fun B => Ctl K B x c ∧ F B) s fun B f e => ⟨⟨r, dx, e, f.1⟩, f.2⟩).drop1
section
variable {K : PySem.W.Frag} {H : Hp} {Q : VK} {x : Addr} {c : CD}
theorem x_cues (κ : KF K) (h : Ctl K H x c) (q : Q (.int c.cues) H) : FldW K "cues" (.ref x) H Q := by
  obtain ⟨r, dx, h, _⟩ := h
  exact x_f (kfld_Control_cues κ) h rfl q
theorem x_repl (κ : KF K) (h : Ctl K H x c) (q : Q (.int c.replies) H) : FldW K "replies" (.ref x) H Q := by
  obtain ⟨r, dx, h, _⟩ := h
  exact x_f (kfld_Control_replies κ) h rfl q
theorem x_states (κ : KF K) (h : Ctl K H x c) (q : Q (.int c.rows.length) H) : FldW K "states" (.ref x) H Q := by
  obtain ⟨r, dx, h, _⟩ := h
  exact x_f (kfld_Control_states κ) h rfl q
theorem x_strt (κ : KF K) (h : Ctl K H x c) (q : Q (.int c.start) H) : FldW K "start" (.ref x) H Q := by
  obtain ⟨r, dx, h, _⟩ := h
  exact x_f (kfld_Control_start κ) h rfl q
theorem x_rows (κ : KF K) (h : Ctl K H x c) (q : ∀ r, RowsB false K H r c.rows → Q (.ref r) H) : FldW K "rows" (.ref x) H Q := by
  obtain ⟨r, dx, h, hr⟩ := h
  exact x_f (kfld_Control_rows κ) h rfl (q r hr)
end
def nextI (rows : List (List (Int × Int))) (s c : Int) : Int := ((rows.getD s.toNat []).getD c.toNat (0, 0)).1
def repI (rows : List (List (Int × Int))) (s c : Int) : Int := ((rows.getD s.toNat []).getD c.toNat (0, 0)).2
theorem ent_get {N : Nat} {cues replies start : Int} {rows : List (List (Int × Int))} (g : GoodN N cues replies rows start) {s c : Int} (hs : 0 ≤ s ∧ s < rows.length) (hc : 0 ≤ c ∧ c < cues) :
    ∃ row e, rows[s.toNat]? = some row ∧ row[c.toNat]? = some e ∧ e.1 = nextI rows s c ∧ e.2 = repI rows s c ∧ entOk rows.length replies e := by
  have h1 : s.toNat < rows.length := by omega
  obtain ⟨g1, g2⟩ := g.row _ (List.getElem_mem h1)
  have h2 : c.toNat < rows[s.toNat].length := by omega
  refine ⟨_, _, List.getElem?_eq_getElem h1, List.getElem?_eq_getElem h2, ?_, ?_, g2 _ (List.getElem_mem h2)⟩
  · unfold nextI
    simp [h1, h2]
  · unfold repI
    simp [h1, h2]
theorem atI_int {xs : List V} {i : Int} {v : V} (h0 : 0 ≤ i) (h : xs[i.toNat]? = some v) : atI xs i = some v := by
  have e : i = ((i.toNat : Nat) : Int) := by omega
  rw [e]
  exact atI_nat h
/-- the entry at a state and a cue, of rows that stand in a list or a tuple -/
theorem x_ent {N : Nat} {K : PySem.W.Frag} {H : Hp} {Q : VK} {b : Bool} {r : Addr} {cues replies start : Int} {rows : List (List (Int × Int))} (g : GoodN N cues replies rows start) (hr : RowsB b K H r rows) {s c : Int} (hs : 0 ≤ s ∧ s < rows.length) (hc : 0 ≤ c ∧ c < cues)
    (q : ∀ z, SqT K H z [.int (nextI rows s c), .int (repI rows s c)] → Q (.ref z) H) : ∃ p, (∀ R : VK, R (.ref p) H → rIx1 K (.ref r) (.int s) H R) ∧ rIx1 K (.ref p) (.int c) H Q := by
  obtain ⟨xs, h, d⟩ := hr
  obtain ⟨row, e, e1, e2, e3, e4, _⟩ := ent_get g hs hc
  obtain ⟨p, ys, h1, h2, h3⟩ := row_at d e1
  obtain ⟨z, h4, h5⟩ := ent_at h3 e2
  rw [e3, e4] at h5
  refine ⟨p, fun R k => ?_, x_ixT h2 (atI_int hc.1 h4) (q z h5)⟩
  cases b
  · exact x_ixT h (atI_int hs.1 h1) k
  · exact x_ixL h (atI_int hs.1 h1) k
def EntAt (b : Bool) (K : PySem.W.Frag) (B : Hp) (r : Addr) (s c : Nat) (p z : Addr) (e1 e2 : Int) : Prop := (∃ xs, SqB b K B r xs ∧ xs[s]? = some (.ref p)) ∧ (∃ ys, SqT K B p ys ∧ ys[c]? = some (.ref z)) ∧ SqT K B z [.int e1, .int e2]
instance {b : Bool} {K : PySem.W.Frag} {r : Addr} {s c : Nat} {p z : Addr} {e1 e2 : Int} : Mono (fun B => EntAt b K B r s c p z e1 e2) := ⟨fun B B' e ⟨⟨xs, h1, h2⟩, ⟨ys, h3, h4⟩, h5⟩ => ⟨⟨xs, Mono.up (F := fun B => SqB b K B r xs) B B' e h1, h2⟩, ⟨ys, Same.seqT e h3, h4⟩, Same.seqT e h5⟩⟩
/-- an entry, as a fact -/
theorem S.ent {N : Nat} {K : PySem.W.Frag} {F : Hp → Prop} {cs : List (Addr × HO)} {H : Hp} {b : Bool} {r : Addr} {cues replies start : Int} {rows : List (List (Int × Int))} (st : S F cs H) (hF : ∀ B, F B → RowsB b K B r rows) (g : GoodN N cues replies rows start) {s c : Int} (hs : 0 ≤ s ∧ s < rows.length) (hc : 0 ≤ c ∧ c < cues) :
    ∃ p z, S (fun B => EntAt b K B r s.toNat c.toNat p z (nextI rows s c) (repI rows s c) ∧ F B) cs H := by
  have mF := st.mono
  obtain ⟨row, e, e1, e2, e3, e4, _⟩ := ent_get g hs hc
  obtain ⟨p, st⟩ := (st.imp (G := fun B => ∃ p, ∃ z, EntAt b K B r s.toNat c.toNat p z (nextI rows s c) (repI rows s c) ∧ F B) fun B f => by
    obtain ⟨xs, h, d⟩ := hF B f
    obtain ⟨p, ys, h1, h2, h3⟩ := row_at d e1
    obtain ⟨z, h4, h5⟩ := ent_at h3 e2
    rw [e3, e4] at h5
    exact ⟨p, z, ⟨⟨xs, h, h1⟩, ⟨ys, h2, h4⟩, h5⟩, f⟩).exE
  obtain ⟨z, st⟩ := st.exE
  exact ⟨p, z, st⟩
section
variable {b : Bool} {K : PySem.W.Frag} {H : Hp} {Q : VK} {r p z : Addr} {s c e1 e2 : Int} {m n : Nat}
theorem x_e1 (h : EntAt b K H r s.toNat n p z e1 e2) (h0 : 0 ≤ s) (k : Q (.ref p) H) : rIx1 K (.ref r) (.int s) H Q := by
  obtain ⟨⟨xs, h1, h2⟩, _, _⟩ := h
  cases b
  · exact x_ixT h1 (atI_int h0 h2) k
  · exact x_ixL h1 (atI_int h0 h2) k
theorem x_e2 (h : EntAt b K H r m c.toNat p z e1 e2) (h0 : 0 ≤ c) (k : Q (.ref z) H) : rIx1 K (.ref p) (.int c) H Q := by
  obtain ⟨_, ⟨ys, h1, h2⟩, _⟩ := h
  exact x_ixT h1 (atI_int h0 h2) k
end
/-! ### Control.entry: slots 0 self 1 state 2 cue -/
theorem S.rowsX {K : PySem.W.Frag} {F : Hp → Prop} {cs : List (Addr × HO)} {H : Hp} {b : Bool} {r : Addr} {rows : List (List (Int × Int))} (s : S F cs H) (hF : ∀ B, F B → RowsB b K B r rows) : ∃ xs, S (fun B => (SqB b K B r xs ∧ DpAll K B xs (rows.map rowD)) ∧ F B) cs H := by
  have mF := s.mono
  exact (s.imp (G := fun B => ∃ xs, (SqB b K B r xs ∧ DpAll K B xs (rows.map rowD)) ∧ F B) fun B f => let ⟨xs, h1, h2⟩ := hF B f; ⟨xs, ⟨h1, h2⟩, f⟩).exE
theorem x_ixB {K : PySem.W.Frag} {H : Hp} {Q : VK} {b : Bool} {p : Addr} {xs : List V} {i : Int} {v : V} (h : SqB b K H p xs) (h0 : 0 ≤ i) (e : xs[i.toNat]? = some v) (q : Q v H) : rIx1 K (.ref p) (.int i) H Q := by
  cases b
  · exact x_ixT h (atI_int h0 e) q
  · exact x_ixL h (atI_int h0 e) q
theorem S.snd {A G : Hp → Prop} {cs : List (Addr × HO)} {H : Hp} (s : S (fun B => A B ∧ G B) cs H) (m : Mono G := by infer_instance) : S G cs H := s.imp fun B h => h.2
theorem S.ctl {K : PySem.W.Frag} {F : Hp → Prop} {cs : List (Addr × HO)} {H : Hp} {x : Addr} {c : CD} (s : S F cs H) (hF : ∀ B, F B → Ctl K B x c) : ∃ r, S (fun B => ((∃ dx, B x = some (.ins (He.ga K "Control") dx (ctlF c r))) ∧ RowsB false K B r c.rows) ∧ F B) cs H := by
  have mF := s.mono
  exact (s.imp (G := fun B => ∃ r, ((∃ dx, B x = some (.ins (He.ga K "Control") dx (ctlF c r))) ∧ RowsB false K B r c.rows) ∧ F B) fun B f => let ⟨r, dx, h1, h2⟩ := hF B f; ⟨r, ⟨⟨dx, h1⟩, h2⟩, f⟩).exE
/-! ### feeds -/
def FeedOk (cues : Int) (ns : List Int) : Prop := ∀ n ∈ ns, 0 ≤ n ∧ n < cues
/-- the first item that is no cue -/
def BadAt (cues : Int) (ns : List Int) (i : Nat) : Prop := (∃ n, ns[i]? = some n ∧ ¬ (0 ≤ n ∧ n < cues)) ∧ ∀ j, j < i → ∀ n, ns[j]? = some n → 0 ≤ n ∧ n < cues
/-- what is wanted of a FeedError of the index i -/
def FErr (K : PySem.W.Frag) (E : XK) (F : Hp → Prop) (cs : List (Addr × HO)) (i : Nat) : Prop := ∀ H dd, S F ((dd, .xd [("index", .int (i : Nat))]) :: cs) H → E (.ref (He.ga K "FeedError")) (some dd) H
theorem bad_uniq {cues : Int} {ns : List Int} {i j : Nat} (h : BadAt cues ns i) (k : BadAt cues ns j) : i = j := by
  obtain ⟨⟨n, h1, h2⟩, h3⟩ := h
  obtain ⟨⟨m, k1, k2⟩, k3⟩ := k
  rcases Nat.lt_trichotomy i j with z | z | z
  · exact absurd (k3 i z n h1) h2
  · exact z
  · exact absurd (h3 j z m k1) k2
theorem ok_not_bad {cues : Int} {ns : List Int} {i : Nat} (h : FeedOk cues ns) (k : BadAt cues ns i) : False := by
  obtain ⟨⟨n, h1, h2⟩, _⟩ := k
  exact h2 (h n (mem_of_get h1))
/-- the state behind j cues, the reply to the next one -/
def staI (rows : List (List (Int × Int))) (s0 : Int) (ns : List Int) (j : Nat) : Int := (ns.take j).foldl (nextI rows) s0
def repS (rows : List (List (Int × Int))) (s0 : Int) (ns : List Int) (j : Nat) : Int := repI rows (staI rows s0 ns j) (ns.getD j 0)
theorem staI_succ {rows : List (List (Int × Int))} {s0 : Int} {ns : List Int} {i : Nat} {n : Int} (h : ns[i]? = some n) : staI rows s0 ns (i + 1) = nextI rows (staI rows s0 ns i) n := by
  unfold staI
  rw [List.take_add_one, h, List.foldl_append]
  rfl
theorem repS_at {rows : List (List (Int × Int))} {s0 : Int} {ns : List Int} {i : Nat} {n : Int} (h : ns[i]? = some n) : repS rows s0 ns i = repI rows (staI rows s0 ns i) n := by
  unfold repS
  rw [List.getD_eq_getElem?_getD, h]
  rfl
theorem staI_ok {N : Nat} {cues replies start : Int} {rows : List (List (Int × Int))} (g : GoodN N cues replies rows start) {s0 : Int} {ns : List Int} (hf : FeedOk cues ns) (h0 : 0 ≤ s0 ∧ s0 < rows.length) : ∀ j, 0 ≤ staI rows s0 ns j ∧ staI rows s0 ns j < rows.length
  | 0 => h0
  | j + 1 => by
    have ih := staI_ok g hf h0 j
    cases h : ns[j]? with
    | none =>
      have : ns.take (j + 1) = ns.take j := by
        have := List.getElem?_eq_none_iff.mp h
        rw [List.take_of_length_le (by omega), List.take_of_length_le this]
      unfold staI at ih ⊢
      rw [this]
      exact ih
    | some n =>
      obtain ⟨row, e, _, _, e3, _, e5⟩ := ent_get g ih (hf n (mem_of_get h))
      rw [staI_succ h, ← e3]
      exact e5.1
theorem x_entry {K : PySem.W.Frag} {H : Hp} {x : Addr} {c : CD} {R : Prop} (h : Ctl K H x c) (q : R) : MethW (He.ga K "Control") "entry" (.ref x) H R := by
  obtain ⟨r, dx, h, _⟩ := h
  exact x_m h rfl q
theorem at_last {ys : List V} {v : V} : atI (ys ++ [v]) (-1) = some v := by
  have e : ixN (ys ++ [v]).length (-1) = some ys.length := by
    unfold ixN
    rw [if_neg (by decide), if_pos (by rw [List.length_append, List.length_singleton]; omega)]
    rw [List.length_append, List.length_singleton]
    congr 1
    omega
  unfold atI
  rw [e]
  simp
def repL (rows : List (List (Int × Int))) (s0 : Int) (ns : List Int) (m : Nat) : List V := (List.range m).map fun j => V.int (repS rows s0 ns j)
def staL (rows : List (List (Int × Int))) (s0 : Int) (ns : List Int) (m : Nat) : List V := (List.range m).map fun j => V.int (staI rows s0 ns j)
theorem repL_succ {rows : List (List (Int × Int))} {s0 : Int} {ns : List Int} {i : Nat} {n : Int} (h : ns[i]? = some n) : repL rows s0 ns (i + 1) = repL rows s0 ns i ++ [.int (repI rows (staI rows s0 ns i) n)] := by
  unfold repL
  rw [List.range_succ, List.map_append, List.map_cons, List.map_nil, repS_at h]
theorem staL_succ {rows : List (List (Int × Int))} {s0 : Int} {ns : List Int} {i : Nat} : staL rows s0 ns (i + 1) = staL rows s0 ns i ++ [.int (staI rows s0 ns i)] := by
  unfold staL
  rw [List.range_succ, List.map_append, List.map_cons, List.map_nil]
theorem repL_len {rows : List (List (Int × Int))} {s0 : Int} {ns : List Int} {m : Nat} : (repL rows s0 ns m).length = m := by unfold repL; simp
theorem staL_len {rows : List (List (Int × Int))} {s0 : Int} {ns : List Int} {m : Nat} : (staL rows s0 ns m).length = m := by unfold staL; simp
/-- a control and a feed that stand where they are -/
def CtlF (K : PySem.W.Frag) (F : Hp → Prop) (x f : Addr) (b : Bool) (c : CD) (ns : List Int) : Prop := (∀ B, F B → Ctl K B x c ∧ SqB b K B f (ns.map V.int)) ∧ c.good ∧ ns.length < 10000000
theorem inV_ints (i : Int) : ∀ ns : List Int, inV (.int i) (ns.map V.int) = decide (i ∈ ns)
  | [] => by simp [inV]
  | n :: ns => by
    have h := inV_ints i ns
    unfold inV at h ⊢
    rw [List.map_cons, List.any_cons, h]
    by_cases e : i = n
    · subst e
      simp [eqV]
    · have e' : ¬ n = i := fun h => e h.symm
      simp [eqV, e, e']
theorem flat_ints : ∀ ns : List Int, (ns.map V.int).all flatV = true
  | [] => rfl
  | n :: ns => by
    rw [List.map_cons, List.all_cons, flat_ints ns]
    rfl
theorem x_inI {K : PySem.W.Frag} {H : Hp} {Q : VK} {p : Addr} {i : Int} {ns : List Int} (h : SqL K H p (ns.map V.int)) (q : Q (.bl (decide (i ∈ ns))) H) : rIn1 K (.int i) (.ref p) H Q :=
  .inr ⟨p, _, rfl, .inl h, rfl, flat_ints ns, by rw [if_neg (by decide), inV_ints]; exact q⟩
theorem x_ninI {K : PySem.W.Frag} {H : Hp} {Q : VK} {p : Addr} {i : Int} {ns : List Int} (h : SqL K H p (ns.map V.int)) (q : Q (.bl (decide (i ∉ ns))) H) : rNotIn1 K (.int i) (.ref p) H Q :=
  .inr ⟨p, _, rfl, .inl h, rfl, flat_ints ns, by rw [if_pos rfl, inV_ints, ← decide_not]; exact q⟩
def rng (n : Nat) : List Int := (List.range n).map fun (i : Nat) => (i : Int)
theorem rng_get {n i : Nat} (h : i < n) : (rng n)[i]? = some (i : Int) := by
  unfold rng
  rw [List.getElem?_map, List.getElem?_range h]
  rfl
theorem rng_len {n : Nat} : (rng n).length = n := by unfold rng; simp
theorem rng_succ {n : Nat} : rng (n + 1) = rng n ++ [(n : Int)] := by unfold rng; rw [List.range_succ, List.map_append]; rfl
theorem rng_mem {n i : Nat} : ((i : Int) ∈ rng n) ↔ i < n := by
  unfold rng
  rw [List.mem_map]
  constructor
  · rintro ⟨j, hj, e⟩
    have := List.mem_range.mp hj
    omega
  · exact fun h => ⟨i, List.mem_range.mpr h, rfl⟩
theorem rng_in {n : Nat} {x : Int} (h : x ∈ rng n) : ∃ i : Nat, i < n ∧ x = i := by
  unfold rng at h
  obtain ⟨i, hi, e⟩ := List.mem_map.mp h
  exact ⟨i, List.mem_range.mp hi, e.symm⟩
theorem rng_nd {n : Nat} : (rng n).Nodup := by
  unfold rng
  exact List.pairwise_map.mpr (List.nodup_range.imp fun h e => h (by omega))
def ixOf (ord : List Int) (s : Int) : Nat := ord.idxOf s
theorem get_ix {ord : List Int} {s : Int} (h : s ∈ ord) : ord[ixOf ord s]? = some s := by
  have h1 := List.idxOf_lt_length_iff.mpr h
  unfold ixOf
  rw [List.getElem?_eq_getElem h1, List.getElem_idxOf]
theorem ix_lt {ord : List Int} {s : Int} (h : s ∈ ord) : ixOf ord s < ord.length := List.idxOf_lt_length_iff.mpr h
theorem ix_get {ord : List Int} (nd : ord.Nodup) {i : Nat} {s : Int} (h : ord[i]? = some s) : ixOf ord s = i := by
  have h1 := get_ix (mem_of_get h)
  exact ((List.getElem?_inj (List.getElem?_eq_some_iff.mp h1).1 nd).mp (by rw [h1, h]))
theorem x_idxI {K : PySem.W.Frag} {H : Hp} {Q : VK} {p : Addr} {i : Int} {ns : List Int} {j : Nat} (h : SqL K H p (ns.map V.int)) (nd : ns.Nodup) (hj : ns[j]? = some i) (q : Q (.int (j : Nat)) H) : rIndex K (.ref p) [.int i] H Q := by
  refine ⟨p, _, .int i, j, .int i, rfl, rfl, h, rfl, flat_ints ns, by rw [List.getElem?_map, hj]; rfl, by simp [eqV], fun m z hm hz => ?_, q⟩
  obtain ⟨n, hn, rfl⟩ := ints_get hz
  have : n ≠ i := fun e => by
    have := (List.getElem?_inj (j := j) (List.getElem?_eq_some_iff.mp hn).1 nd).mp (by rw [hn, hj, e])
    omega
  simp [eqV, this]
theorem rep_flat (v : V) : ∀ n, (List.replicate n [v]).flatten = List.replicate n v
  | 0 => rfl
  | n + 1 => by rw [List.replicate_succ, List.flatten_cons, rep_flat v n]; rfl
theorem ins_perm {ns : List Int} {x : Int} (r : Nat) : (ns.take r ++ [x] ++ ns.drop r).Perm (ns ++ [x]) := by
  have h : (ns.take r ++ [x] ++ ns.drop r).Perm (ns.take r ++ (ns.drop r ++ [x])) := by
    rw [List.append_assoc]
    exact (List.Perm.refl _).append List.perm_append_comm
  rw [← List.append_assoc, List.take_append_drop] at h
  exact h
def sp_Control_entry (K : PySem.W.Frag) : Sp := fun vs H Q _ => ∃ (F : Hp → Prop) (cs : List (Addr × HO)) (x : Addr) (cd : CD) (s c : Int), vs = [.ref x, .int s, .int c] ∧ S F cs H ∧ (∀ B, F B → Ctl K B x cd) ∧ cd.good ∧ (0 ≤ s ∧ s < cd.rows.length) ∧ (0 ≤ c ∧ c < cd.cues) ∧
  ∀ z H', S (fun B => SqT K B z [.int (nextI cd.rows s c), .int (repI cd.rows s c)] ∧ F B) cs H' → Q (.ref z) H'
def t_Control_entry (K : PySem.W.Frag) (E : XK) : TS := tRet (tOp (rIx1 K) (tOp (rIx1 K) (tFld K (tVar 0) "rows") (tVar 1)) (tVar 2))
theorem pure_Control_entry {K : PySem.W.Frag} (κ : KF K) (vs : List V) (H : Hp) (Q : VK) (E : XK) (h : sp_Control_entry K vs H Q E) : t_Control_entry K E ⟨fun _ H' => Q .non H', Q, fun _ _ => False, fun _ _ => False⟩ (start [("self" : Str), "state", "cue"] vs) H := by
  unfold t_Control_entry
  obtain ⟨F, cs, x, cd, st, c, rfl, s, hF, g, hs, hc, q⟩ := h
  refine x_start (σ' := [some _, some _, some _]) ?_ rfl
  have mF := s.mono
  walk_at "sx"
  obtain ⟨r, s⟩ := s.ctl hF
  obtain ⟨⟨dx, hx⟩, _⟩ := s.fact.1
  refine x_f (kfld_Control_rows κ) hx rfl ?_
  walk_at "sx"
  obtain ⟨p, z, s⟩ := s.ent (fun B f => f.1.2) g hs hc
  refine x_e1 s.fact.1 hs.1 ?_
  walk_at "sx"
  exact x_e2 s.fact.1 hc.1 (q z _ (s.imp fun B f => ⟨f.1.2.2, f.2.2⟩))
/-! ### check_feed: slots 0 cues 1 feed 2 index 3 cue -/
def sp_check_feed (K : PySem.W.Frag) : Sp := fun vs H Q E => ∃ (F : Hp → Prop) (cs : List (Addr × HO)) (f : Addr) (b : Bool) (cues : Int) (ns : List Int), vs = [.int cues, .ref f] ∧ S F cs H ∧ (∀ B, F B → SqB b K B f (ns.map V.int)) ∧
  (FeedOk cues ns → ∀ H', S F cs H' → Q .non H') ∧ ∀ i, BadAt cues ns i → FErr K E F cs i
def t_check_feed (K : PySem.W.Frag) (E : XK) : TS := tFor (iEnum1 K (tCons (tVar 1) (tNil))) (gTup K 2 (gCons (gName 2) (gCons (gName 3) (gNil)))) (tIfS (tNot (tTest (tChain rLe1 rLt1 (tC (.int 0)) (tVar 3) (tVar 0)))) (tRaiseM (He.ga K "FeedError") (sp_err ed_FeedError K) [] (tCons (tVar 2) (tNil)) (fun cls d _ H => E cls d H)) (tNext))
theorem pure_check_feed {K : PySem.W.Frag} (κ : KF K) (vs : List V) (H : Hp) (Q : VK) (E : XK) (h : sp_check_feed K vs H Q E) : t_check_feed K E ⟨fun _ H' => Q .non H', Q, fun _ _ => False, fun _ _ => False⟩ (start [("cues" : Str), "feed", "index", "cue"] vs) H := by
  unfold t_check_feed
  obtain ⟨F, cs, f, b, cues, ns, rfl, s, hf, ok, bad⟩ := h
  refine x_start (σ' := [some _, some _, none, none]) ?_ rfl
  have get : ∀ {i : Nat} {x : V}, (ns.map V.int)[i]? = some x → ∃ n, ns[i]? = some n ∧ x = .int n := fun {i x} h => by
    rw [List.getElem?_map] at h
    obtain ⟨n, h1, h2⟩ := Option.map_eq_some_iff.mp h
    exact ⟨n, h1, h2.symm⟩
  walk_at "sx"
  refine x_forE (hf _ s.fact) (fun i σ' H' => ∃ v w, σ' = [some (.int cues), some (.ref f), v, w] ∧ (∀ j, j < i → ∀ n, ns[j]? = some n → 0 ≤ n ∧ n < cues) ∧ S F cs H') ⟨_, _, rfl, fun j hj => absurd hj (Nat.not_lt_zero j), s⟩ (fun i σ H h => by obtain ⟨_, _, _, _, s⟩ := h; exact hf _ s.fact) ?_ ?_
  · rintro i x σ' H' T H2 hx ⟨v, w, rfl, hj, s⟩ hT rfl
    have s := (s.alloc (o := .tup [.int (i : Nat), x]) hT).drop1
    obtain ⟨n, hn, rfl⟩ := get hx
    have isbad : ¬ (0 ≤ n ∧ n < cues) → BadAt cues ns i := fun h => ⟨⟨n, hn, h⟩, hj⟩
    have err : ¬ (0 ≤ n ∧ n < cues) → ∀ (σ : L2.St) (H2 : Hp), S F cs H2 → RaiseW (He.ga K "FeedError") (sp_err ed_FeedError K) (fun cls d _ H => E cls d H) σ [.int (i : Nat)] H2 := fun h σ H2 s =>
      x_rz (d := ed_FeedError) rfl fun dd hd => bad i (isbad h) _ dd (s.alloc hd)
    walk_at "sx"
    refine x_if (fun h1 => ?_) (fun h1 => ?_)
    · walk_at "sx"
      refine x_ifn (fun h2 => ?_) (fun h2 => ?_)
      · walk_at "sx"
        exact err (fun z => h2 z.2) _ _ s
      · walk_at "sx"
        refine ⟨_, _, rfl, fun j hj2 m hm => ?_, s⟩
        rcases Nat.lt_or_ge j i with z | z
        · exact hj j z m hm
        · obtain rfl : j = i := by omega
          rw [hn] at hm
          cases hm
          exact ⟨h1, h2⟩
    · walk_at "sx"
      exact err (fun z => h1 z.1) _ _ s
  · rintro σ' H' ⟨v, w, rfl, hj, s⟩
    refine ok (fun n hn => ?_) _ s
    obtain ⟨j, hj2⟩ := List.mem_iff_getElem?.mp hn
    have : j < (ns.map V.int).length := by rw [List.length_map]; exact (List.getElem?_eq_some_iff.mp hj2).1
    exact hj j this n hj2
/-! ### state_from: slots 0 control 1 state 2 feed 3 current 4 cue -/
def sp_state_from (K : PySem.W.Frag) : Sp := fun vs H Q _ => ∃ (F : Hp → Prop) (cs : List (Addr × HO)) (x f : Addr) (b : Bool) (c : CD) (ns : List Int) (st : Int), vs = [.ref x, .int st, .ref f] ∧ S F cs H ∧ CtlF K F x f b c ns ∧ FeedOk c.cues ns ∧ (0 ≤ st ∧ st < c.rows.length) ∧
  ∀ H', S F cs H' → Q (.int (staI c.rows st ns ns.length)) H'
def t_state_from (K : PySem.W.Frag) (E : XK) : TS := tSeq (tAsg (tVar 1) (gName 3)) (tSeq (tFor (iSq K (tVar 2)) (gName 4) (tAsg (tOp (rIx1 K) (tMeth (He.ga K "Control") "entry" (sp_Control_entry K) [] E0 (tVar 0) (tCons (tVar 3) (tCons (tVar 4) (tNil)))) (tC (.int 0))) (gName 3))) (tRet (tVar 3)))
theorem pure_state_from {K : PySem.W.Frag} (κ : KF K) (vs : List V) (H : Hp) (Q : VK) (E : XK) (h : sp_state_from K vs H Q E) : t_state_from K E ⟨fun _ H' => Q .non H', Q, fun _ _ => False, fun _ _ => False⟩ (start [("control" : Str), "state", "feed", "current", "cue"] vs) H := by
  unfold t_state_from
  obtain ⟨F, cs, x, f, b, c, ns, st, rfl, s, ⟨hF, g, hn⟩, ok, hs, q⟩ := h
  refine x_start (σ' := [some _, some _, some _, none, none]) ?_ rfl
  have sok := staI_ok g ok hs
  have mF := s.mono
  walk_at "sx"
  refine x_forB (hF _ s.fact).2 (fun i σ' H' => ∃ w, σ' = [some (.ref x), some (.int st), some (.ref f), some (.int (staI c.rows st ns i)), w] ∧ S F cs H') ⟨_, rfl, s⟩ (fun i σ H h => by obtain ⟨_, _, s⟩ := h; exact (hF _ s.fact).2) ?_ ?_
  · rintro i y σ' H' hy ⟨w, rfl, s⟩
    obtain ⟨n, hz, rfl⟩ := ints_get hy
    walk_at "sx"
    refine x_entry (hF _ s.fact).1 ?_
    walk_at "sx"
    refine ⟨F, _, x, c, _, n, rfl, s, fun B f => (hF B f).1, g, sok i, ok n (mem_of_get hz), fun z H2 s => ?_⟩
    walk_at "sx"
    refine x_ixT s.fact.1 rfl ?_
    have s := s.snd
    walk_at "sx"
    exact ⟨_, by rw [staI_succ hz], s⟩
  · rintro σ' H' ⟨w, rfl, s⟩
    rw [List.length_map]
    walk_at "sx"
    exact q _ s
/-! ### Search.__init__: slots 0 self 1 first -/
theorem nodup_lt : ∀ (n : Nat) (l : List Nat), l.Nodup → (∀ x ∈ l, x < n) → l.length ≤ n
  | 0, l, _, h => by
    cases l with
    | nil => exact Nat.le_refl _
    | cons a l => exact absurd (h a (List.mem_cons_self ..)) (Nat.not_lt_zero a)
  | n + 1, l, nd, h => by
    have h1 := nodup_lt n (l.erase n) (nd.erase n) fun x hx => by
      have h2 := h x (List.mem_of_mem_erase hx)
      have h3 : x ≠ n := fun e => by
        subst e
        exact (nd.not_mem_erase) hx
      omega
    have := List.length_erase_le (a := n) (l := l)
    have h4 : l.length ≤ (l.erase n).length + 1 := by
      rw [List.length_erase]
      split <;> omega
    omega
theorem nodup_int (n : Nat) (l : List Int) (nd : l.Nodup) (h : ∀ x ∈ l, 0 ≤ x ∧ x < n) : l.length ≤ n := by
  have h1 : (l.map Int.toNat).Nodup := by
    refine List.pairwise_map.mpr (nd.imp_of_mem fun {a b} ha hb hab e => hab ?_)
    have := h a ha
    have := h b hb
    omega
  have h2 := nodup_lt n _ h1 fun x hx => by
    obtain ⟨y, hy, rfl⟩ := List.mem_map.mp hx
    have := h y hy
    omega
  rw [List.length_map] at h2
  exact h2
theorem nodup_pair {n m : Nat} {l : List (Int × Int)} (nd : l.Nodup) (h : ∀ p ∈ l, (0 ≤ p.1 ∧ p.1 < n) ∧ 0 ≤ p.2 ∧ p.2 < m) : l.length ≤ n * m := by
  have h1 : (l.map fun p => p.1 * (m : Int) + p.2).Nodup := by
    refine List.pairwise_map.mpr (nd.imp_of_mem fun {a b} ha hb hab e => hab ?_)
    have h1 := h a ha
    have h2 := h b hb
    have e1 : a.1 = b.1 := by
      have q1 : (a.1 * (m : Int) + a.2) / m = a.1 := by
        rw [Int.add_comm, Int.add_mul_ediv_right _ _ (by omega), Int.ediv_eq_zero_of_lt h1.2.1 h1.2.2]
        omega
      have q2 : (b.1 * (m : Int) + b.2) / m = b.1 := by
        rw [Int.add_comm, Int.add_mul_ediv_right _ _ (by omega), Int.ediv_eq_zero_of_lt h2.2.1 h2.2.2]
        omega
      rw [← q1, ← q2, e]
    rw [e1] at e
    exact Prod.ext e1 (by omega)
  have h2 := nodup_int (n * m) _ h1 fun x hx => by
    obtain ⟨p, hp, rfl⟩ := List.mem_map.mp hx
    have hp := h p hp
    have q1 : 0 ≤ p.1 * (m : Int) := Int.mul_nonneg hp.1.1 (by omega)
    have q2 : p.1 * (m : Int) ≤ ((n : Int) - 1) * m := Int.mul_le_mul_of_nonneg_right (by omega) (by omega)
    rw [Int.sub_mul, Int.one_mul] at q2
    have q3 : ((n * m : Nat) : Int) = (n : Int) * m := Int.natCast_mul n m
    omega
  rw [List.length_map] at h2
  exact h2
def PK (p : Int × Int) : List L2.Key := [.inl p.1, .inl p.2]
theorem PK_inj {p q : Int × Int} (h : PK p = PK q) : p = q := by
  unfold PK at h
  simp only [List.cons.injEq, Sum.inl.injEq, and_true] at h
  exact Prod.ext h.1 h.2
theorem valV_mem {κ : Type} [DecidableEq κ] {kvs : List (κ × V)} {k : κ} (h : k ∈ kvs.map Prod.fst) : (valV kvs k).isSome = true := by
  obtain ⟨p, hp, e⟩ := List.mem_map.mp h
  rw [← valV_any]
  exact List.any_eq_true.mpr ⟨p, hp, decide_eq_true e⟩
theorem valV_not {κ : Type} [DecidableEq κ] {kvs : List (κ × V)} {k : κ} (h : k ∉ kvs.map Prod.fst) : valV kvs k = none := by
  cases e : valV kvs k with
  | none => rfl
  | some v => exact absurd (valV_in e) h
theorem pk_mem {ord : List (Int × Int)} {p : Int × Int} : PK p ∈ ord.map PK ↔ p ∈ ord := by
  constructor
  · intro h
    obtain ⟨q, hq, e⟩ := List.mem_map.mp h
    exact PK_inj e ▸ hq
  · exact fun h => List.mem_map_of_mem h
/-! ### states told apart by feeds: a feed that is least is shorter than there are states -/
section
variable (nx : Nat → Nat → Nat) (rep : Nat → Nat → Int) (cues : Nat)
/-- no feed of at most n cues parts u and v -/
def EqF (n u v : Nat) : Prop := ∀ w : List Nat, (∀ c ∈ w, c < cues) → w.length < n → ∀ k, k < cues → rep (w.foldl nx u) k = rep (w.foldl nx v) k
theorem eqF_refl (n u : Nat) : EqF nx rep cues n u u := fun _ _ _ _ _ => rfl
theorem eqF_symm {n u v : Nat} (h : EqF nx rep cues n u v) : EqF nx rep cues n v u := fun w h1 h2 k h3 => (h w h1 h2 k h3).symm
theorem eqF_trans {n u v x : Nat} (h : EqF nx rep cues n u v) (g : EqF nx rep cues n v x) : EqF nx rep cues n u x := fun w h1 h2 k h3 => (h w h1 h2 k h3).trans (g w h1 h2 k h3)
theorem eqF_mono {n m u v : Nat} (hm : m ≤ n) (h : EqF nx rep cues n u v) : EqF nx rep cues m u v := fun w h1 h2 k h3 => h w h1 (Nat.lt_of_lt_of_le h2 hm) k h3
theorem eqF_next {n u v k : Nat} (hk : k < cues) (h : EqF nx rep cues (n + 1) u v) : EqF nx rep cues n (nx u k) (nx v k) := fun w h1 h2 j h3 =>
  h (k :: w) (fun c hc => by
    rcases List.mem_cons.mp hc with rfl | hc
    · exact hk
    · exact h1 c hc) (by rw [List.length_cons]; omega) j h3
theorem eqF_succ {n u v : Nat} (h0 : ∀ k, k < cues → rep u k = rep v k) (h : ∀ k, k < cues → EqF nx rep cues n (nx u k) (nx v k)) : EqF nx rep cues (n + 1) u v
  | [], _, _, k, hk => h0 k hk
  | c :: w, h1, h2, k, hk => h c (h1 c (List.mem_cons_self ..)) w (fun d hd => h1 d (List.mem_cons_of_mem _ hd)) (by rw [List.length_cons] at h2; omega) k hk
/-- once the parting stops it stops for ever -/
theorem eqF_stop {N n : Nat} (hcl : ∀ u, u < N → ∀ k, k < cues → nx u k < N) (h : ∀ u v, u < N → v < N → EqF nx rep cues n u v → EqF nx rep cues (n + 1) u v) : ∀ d u v, u < N → v < N → EqF nx rep cues n u v → EqF nx rep cues (n + d) u v
  | 0, _, _, _, _, e => e
  | d + 1, u, v, hu, hv, e => by
    have e1 := eqF_stop hcl h d u v hu hv e
    cases d with
    | zero => exact h u v hu hv e
    | succ d =>
      refine eqF_succ nx rep cues (fun k hk => e1 [] (fun _ z => nomatch z) (by show 0 < _; omega) k hk) fun k hk => ?_
      have e2 : EqF nx rep cues (n + d) (nx u k) (nx v k) := eqF_next nx rep cues hk e1
      exact eqF_stop hcl h (d + 1) _ _ (hcl u hu k hk) (hcl v hv k hk) (eqF_mono nx rep cues (Nat.le_add_right _ _) e2)
noncomputable def isRep (n u : Nat) : Bool := @decide (∀ v, v < u → ¬ EqF nx rep cues n u v) (Classical.propDecidable _)
theorem isRep_iff {n u : Nat} : isRep nx rep cues n u = true ↔ ∀ v, v < u → ¬ EqF nx rep cues n u v := ⟨fun h => @of_decide_eq_true _ (Classical.propDecidable _) h, fun h => @decide_eq_true _ (Classical.propDecidable _) h⟩
noncomputable def reps (N n : Nat) : Nat := (List.range N).countP (isRep nx rep cues n)
theorem least_rep (n : Nat) : ∀ u : Nat, ∃ r, r ≤ u ∧ EqF nx rep cues n u r ∧ isRep nx rep cues n r = true := by
  intro u
  induction u using Nat.strongRecOn with
  | ind u ih =>
    by_cases h : ∀ v, v < u → ¬ EqF nx rep cues n u v
    · exact ⟨u, Nat.le_refl _, eqF_refl nx rep cues n u, (isRep_iff nx rep cues).mpr h⟩
    · have ⟨v, hv⟩ := Classical.not_forall.mp h
      have ⟨h1, h2⟩ := Classical.not_imp.mp hv
      have h2 := Classical.not_not.mp h2
      obtain ⟨r, r1, r2, r3⟩ := ih v h1
      exact ⟨r, by omega, eqF_trans nx rep cues h2 r2, r3⟩
theorem countP_lt {p q : Nat → Bool} : ∀ {l : List Nat} {x : Nat}, (∀ y ∈ l, p y = true → q y = true) → x ∈ l → q x = true → p x = false → l.countP p < l.countP q
  | a :: l, x, h, hx, hq, hp => by
    have hle : l.countP p ≤ l.countP q := List.countP_mono_left fun y hy => h y (List.mem_cons_of_mem _ hy)
    rw [List.countP_cons, List.countP_cons]
    rcases List.mem_cons.mp hx with rfl | hx
    · rw [hq, hp]
      simp
      omega
    · have := countP_lt (fun y hy => h y (List.mem_cons_of_mem _ hy)) hx hq hp
      have h2 := h a (List.mem_cons_self ..)
      cases e : p a with
      | false => cases q a <;> simp <;> omega
      | true => rw [h2 e]; simp; omega
theorem reps_lt {N n u v : Nat} (hu : u < N) (hv : v < N) (h1 : EqF nx rep cues n u v) (h2 : ¬ EqF nx rep cues (n + 1) u v) : reps nx rep cues N n < reps nx rep cues N (n + 1) := by
  obtain ⟨r, r1, r2, r3⟩ := least_rep nx rep cues n u
  have fine : ∀ y, isRep nx rep cues n y = true → isRep nx rep cues (n + 1) y = true := fun y hy => (isRep_iff nx rep cues).mpr fun z hz e => (isRep_iff nx rep cues).mp hy z hz (eqF_mono nx rep cues (Nat.le_succ n) e)
  -- one of the two is not with r any more
  have key : ∀ x, x < N → EqF nx rep cues n x r → ¬ EqF nx rep cues (n + 1) x r → reps nx rep cues N n < reps nx rep cues N (n + 1) := fun x hx e1 e2 => by
    obtain ⟨r', q1, q2, q3⟩ := least_rep nx rep cues (n + 1) x
    have ne : r' ≠ r := fun z => e2 (z ▸ q2)
    have e3 : EqF nx rep cues n r' r := eqF_trans nx rep cues (eqF_symm nx rep cues (eqF_mono nx rep cues (Nat.le_succ n) q2)) e1
    have hlt : r < r' := by
      rcases Nat.lt_trichotomy r r' with z | z | z
      · exact z
      · exact absurd z.symm ne
      · exact absurd (eqF_symm nx rep cues e3) ((isRep_iff nx rep cues).mp r3 r' z)
    refine countP_lt (x := r') (fun y _ hy => fine y hy) (List.mem_range.mpr (by omega)) q3 ?_
    cases e : isRep nx rep cues n r' with
    | false => rfl
    | true => exact absurd e3 ((isRep_iff nx rep cues).mp e r hlt)
  by_cases e : EqF nx rep cues (n + 1) u r
  · exact key v hv (eqF_trans nx rep cues (eqF_symm nx rep cues h1) r2) fun z => h2 (eqF_trans nx rep cues e (eqF_symm nx rep cues z))
  · exact key u hu r2 e
theorem moore {N L u v : Nat} (hcl : ∀ u, u < N → ∀ k, k < cues → nx u k < N) (hu : u < N) (hv : v < N) (h1 : EqF nx rep cues L u v) (h2 : ¬ EqF nx rep cues (L + 1) u v) : L + 1 < N := by
  have step : ∀ j, j ≤ L → reps nx rep cues N j < reps nx rep cues N (j + 1) := fun j hj => by
    refine Classical.byContradiction fun hn => ?_
    have stop : ∀ u v, u < N → v < N → EqF nx rep cues j u v → EqF nx rep cues (j + 1) u v := fun u v hu hv e => Classical.byContradiction fun z => hn (reps_lt nx rep cues hu hv e z)
    have := eqF_stop nx rep cues hcl stop (L + 1 - j) u v hu hv (eqF_mono nx rep cues hj h1)
    rw [show j + (L + 1 - j) = L + 1 by omega] at this
    exact h2 this
  have grow : ∀ j, j ≤ L + 1 → j + 1 ≤ reps nx rep cues N j := fun j => by
    induction j with
    | zero =>
      intro _
      have : 0 < reps nx rep cues N 0 := List.countP_pos_iff.mpr ⟨0, List.mem_range.mpr (by omega), (isRep_iff nx rep cues).mpr fun v hv => absurd hv (Nat.not_lt_zero v)⟩
      omega
    | succ j ih =>
      intro hj
      have := ih (by omega)
      have := step j (by omega)
      omega
  have h3 := grow (L + 1) (Nat.le_refl _)
  have h4 : reps nx rep cues N (L + 1) ≤ (List.range N).length := List.countP_le_length
  rw [List.length_range] at h4
  omega
end
/-! ### the plain law of a search in the order of the least feeds: no program in sight -/
def lexL : List Nat → List Nat → Prop
  | a :: u, b :: v => a < b ∨ (a = b ∧ lexL u v)
  | _, _ => False
/-- less: shorter, or as long and less item by item -/
def SL (u v : List Nat) : Prop := u.length < v.length ∨ (u.length = v.length ∧ lexL u v)
theorem lexL_trans : ∀ {u v w : List Nat}, lexL u v → lexL v w → lexL u w
  | a :: u, b :: v, c :: w, h, k => by
    rcases h with h | ⟨rfl, h⟩
    · rcases k with k | ⟨rfl, k⟩
      · exact .inl (by omega)
      · exact .inl h
    · rcases k with k | ⟨rfl, k⟩
      · exact .inl k
      · exact .inr ⟨rfl, lexL_trans h k⟩
  | [], _, _, h, _ => h.elim
  | _ :: _, [], _, h, _ => h.elim
  | _ :: _, _ :: _, [], _, k => k.elim
theorem lexL_irr : ∀ {u : List Nat}, ¬ lexL u u
  | [], h => h
  | a :: u, h => by
    rcases h with h | ⟨_, h⟩
    · omega
    · exact lexL_irr h
theorem SL_trans {u v w : List Nat} (h : SL u v) (k : SL v w) : SL u w := by
  rcases h with h | ⟨h1, h2⟩
  · rcases k with k | ⟨k1, _⟩
    · exact .inl (by omega)
    · exact .inl (by omega)
  · rcases k with k | ⟨k1, k2⟩
    · exact .inl (by omega)
    · exact .inr ⟨by omega, lexL_trans h2 k2⟩
theorem SL_irr {u : List Nat} (h : SL u u) : False := by
  rcases h with h | ⟨_, h⟩
  · omega
  · exact lexL_irr h
theorem lexL_snoc : ∀ {u v : List Nat} {c d : Nat}, u.length = v.length → lexL u v → lexL (u ++ [c]) (v ++ [d])
  | a :: u, b :: v, c, d, hl, h => by
    rcases h with h | ⟨rfl, h⟩
    · exact .inl h
    · exact .inr ⟨rfl, lexL_snoc (by simpa using hl) h⟩
  | [], _, _, _, _, h => h.elim
  | _ :: _, [], _, _, _, h => h.elim
theorem lexL_same : ∀ {u : List Nat} {c d : Nat}, c < d → lexL (u ++ [c]) (u ++ [d])
  | [], _, _, h => .inl h
  | _ :: u, _, _, h => .inr ⟨rfl, lexL_same h⟩
theorem SL_snoc {u v : List Nat} {c d : Nat} (h : SL u v) : SL (u ++ [c]) (v ++ [d]) := by
  rcases h with h | ⟨h1, h2⟩
  · exact .inl (by simp only [List.length_append, List.length_singleton]; omega)
  · exact .inr ⟨by simp only [List.length_append, List.length_singleton]; omega, lexL_snoc h1 h2⟩
theorem SL_same {u : List Nat} {c d : Nat} (h : c < d) : SL (u ++ [c]) (u ++ [d]) := .inr ⟨by simp, lexL_same h⟩
theorem SL_nil {u : List Nat} {c : Nat} : SL [] (u ++ [c]) := .inl (by simp)
def SLe (u v : List Nat) : Prop := u = v ∨ SL u v
theorem SLe_anti {u v : List Nat} (h : SLe u v) (k : SLe v u) : u = v := by
  rcases h with h | h
  · exact h
  · rcases k with k | k
    · exact k.symm
    · exact (SL_irr (SL_trans h k)).elim
theorem SLe_snoc {u v : List Nat} {c : Nat} (h : SLe u v) : SLe (u ++ [c]) (v ++ [c]) := by
  rcases h with rfl | h
  · exact .inl rfl
  · exact .inr (SL_snoc h)
theorem SLe_trans {u v w : List Nat} (h : SLe u v) (k : SLe v w) : SLe u w := by
  rcases h with rfl | h
  · exact k
  · rcases k with rfl | k
    · exact .inr h
    · exact .inr (SL_trans h k)
/-! ### the search -/
section
variable {α : Type} [DecidableEq α] (nx : α → Nat → α) (cues : Nat) (s0 : α)
def runB (f : List Nat) : α := f.foldl nx s0
abbrev BSt (α : Type) : Type := List α × List (List Nat)
def oneB (k : Nat) (st : BSt α) (c : Nat) : BSt α := match st.1[k]?, st.2[k]? with
  | some s, some f => if nx s c ∈ st.1 then st else (st.1 ++ [nx s c], st.2 ++ [f ++ [c]])
  | _, _ => st
def colB (k : Nat) (st : BSt α) : Nat → BSt α
  | 0 => st
  | c + 1 => oneB nx k (colB k st c) c
def bfsB : Nat → BSt α
  | 0 => ([s0], [[]])
  | k + 1 => if k < (bfsB k).1.length then colB nx k (bfsB k) cues else bfsB k
/-- what stands so far -/
structure BInv (st : BSt α) : Prop where
  len : st.2.length = st.1.length
  nd : st.1.Nodup
  z1 : st.1[0]? = some s0
  z2 : st.2[0]? = some []
  run : ∀ (i : Nat) s f, st.1[i]? = some s → st.2[i]? = some f → runB nx s0 f = s
  srt : ∀ (i j : Nat) f g, i < j → st.2[i]? = some f → st.2[j]? = some g → SL f g
  cu : ∀ (i : Nat) f, st.2[i]? = some f → ∀ c ∈ f, c < cues
/-- the places and cues that are done: those ahead of (k, c) -/
def BDone (st : BSt α) (k c : Nat) : Prop := ∀ (i d : Nat) s f, (i < k ∨ (i = k ∧ d < c)) → d < cues → st.1[i]? = some s → st.2[i]? = some f → ∃ (j : Nat) (g : List Nat), st.1[j]? = some (nx s d) ∧ st.2[j]? = some g ∧ SLe g (f ++ [d])
def BFront (st : BSt α) (k c : Nat) : Prop := ∀ (i : Nat) f g, st.2[k]? = some f → st.2[i]? = some g → SL g (f ++ [c])
theorem mem_iff_get {l : List α} {x : α} : x ∈ l ↔ ∃ i : Nat, l[i]? = some x := List.mem_iff_getElem?
theorem one_ok {st : BSt α} {k c : Nat} (I : BInv nx cues s0 st) (D : BDone nx cues st k c) (Fr : BFront st k c) (hk : k < st.1.length) (hc : c < cues) :
    BInv nx cues s0 (oneB nx k st c) ∧ BDone nx cues (oneB nx k st c) k (c + 1) ∧ BFront (oneB nx k st c) k (c + 1) ∧ st.1 <+: (oneB nx k st c).1 ∧ st.2 <+: (oneB nx k st c).2 := by
  obtain ⟨ord, fds⟩ := st
  have hk2 : k < fds.length := by rw [I.len]; exact hk
  have e1 : ord[k]? = some ord[k] := List.getElem?_eq_getElem hk
  have e2 : fds[k]? = some fds[k] := List.getElem?_eq_getElem hk2
  generalize ord[k] = s at e1
  generalize fds[k] = f at e2
  have hone : oneB nx k (ord, fds) c = if nx s c ∈ ord then (ord, fds) else (ord ++ [nx s c], fds ++ [f ++ [c]]) := by
    unfold oneB
    dsimp only
    rw [e1, e2]
  rw [hone]
  by_cases hm : nx s c ∈ ord
  · rw [if_pos hm]
    refine ⟨I, fun i d s' f' hd hdc h1 h2 => ?_, fun i f' g h1 h2 => ?_, List.prefix_refl _, List.prefix_refl _⟩
    · by_cases hx : i < k ∨ (i = k ∧ d < c)
      · exact D i d s' f' hx hdc h1 h2
      · obtain ⟨rfl, rfl⟩ : i = k ∧ d = c := by omega
        have h1 : ord[i]? = some s' := h1
        have h2 : fds[i]? = some f' := h2
        rw [e1] at h1
        rw [e2] at h2
        cases h1
        cases h2
        obtain ⟨j, hj⟩ := mem_iff_get.mp hm
        have hj2 : j < fds.length := by rw [I.len]; exact (List.getElem?_eq_some_iff.mp hj).1
        exact ⟨j, fds[j], hj, List.getElem?_eq_getElem hj2, .inr (Fr j f fds[j] e2 (List.getElem?_eq_getElem hj2))⟩
    · have h1 : fds[k]? = some f' := h1
      rw [e2] at h1
      cases h1
      exact SL_trans (Fr i f g e2 h2) (SL_same (Nat.lt_succ_self c))
  · rw [if_neg hm]
    have p1 : ord <+: ord ++ [nx s c] := List.prefix_append _ _
    have p2 : fds <+: fds ++ [f ++ [c]] := List.prefix_append _ _
    have il : fds.length = ord.length := I.len
    -- an item of the longer lists: an old one, or the new one
    have go : ∀ {i : Nat} {x : α}, (ord ++ [nx s c])[i]? = some x → ord[i]? = some x ∨ (i = ord.length ∧ x = nx s c) := fun {i x} h => by
      rcases Nat.lt_or_ge i ord.length with z | z
      · rw [List.getElem?_append_left z] at h
        exact .inl h
      · rw [List.getElem?_append_right z] at h
        have : i - ord.length = 0 := by
          have := (List.getElem?_eq_some_iff.mp h).1
          simpa using this
        rw [this] at h
        exact .inr ⟨by omega, by simpa using h.symm⟩
    have gf : ∀ {i : Nat} {x : List Nat}, (fds ++ [f ++ [c]])[i]? = some x → fds[i]? = some x ∨ (i = ord.length ∧ x = f ++ [c]) := fun {i x} h => by
      rcases Nat.lt_or_ge i fds.length with z | z
      · rw [List.getElem?_append_left z] at h
        exact .inl h
      · rw [List.getElem?_append_right z] at h
        have : i - fds.length = 0 := by
          have := (List.getElem?_eq_some_iff.mp h).1
          simpa using this
        rw [this] at h
        exact .inr ⟨by omega, by simpa using h.symm⟩
    have lt1 : ∀ {i : Nat} {x : α}, ord[i]? = some x → i < ord.length := fun h => (List.getElem?_eq_some_iff.mp h).1
    have lt2 : ∀ {i : Nat} {x : List Nat}, fds[i]? = some x → i < ord.length := fun h => by rw [← il]; exact (List.getElem?_eq_some_iff.mp h).1
    have up1 : ∀ {i : Nat} {x : α}, ord[i]? = some x → (ord ++ [nx s c])[i]? = some x := fun h => by rw [List.getElem?_append_left (lt1 h)]; exact h
    have up2 : ∀ {i : Nat} {x : List Nat}, fds[i]? = some x → (fds ++ [f ++ [c]])[i]? = some x := fun h => by rw [List.getElem?_append_left (by rw [il]; exact lt2 h)]; exact h
    have nw1 : (ord ++ [nx s c])[ord.length]? = some (nx s c) := by simp
    have nw2 : (fds ++ [f ++ [c]])[ord.length]? = some (f ++ [c]) := by rw [← il]; simp
    have fr : ∀ (i : Nat) g, fds[i]? = some g → SL g (f ++ [c]) := fun i g h => Fr i f g e2 h
    refine ⟨⟨?_, ?_, up1 I.z1, up2 I.z2, fun i s' f' h1 h2 => ?_, fun i j f' g hij h1 h2 => ?_, fun i f' h1 d hd => ?_⟩, fun i d s' f' hd hdc h1 h2 => ?_, fun i f' g h1 h2 => ?_, p1, p2⟩
    · rw [List.length_append, List.length_append, il]
      rfl
    · rw [List.nodup_append]
      exact ⟨I.nd, (by simp), fun a ha b hb => by cases List.mem_singleton.mp hb; exact fun z => hm (z ▸ ha)⟩
    · rcases go h1 with h1 | ⟨rfl, rfl⟩
      · rcases gf h2 with h2 | ⟨rfl, rfl⟩
        · exact I.run i s' f' h1 h2
        · exact absurd (lt1 h1) (Nat.lt_irrefl _)
      · rcases gf h2 with h2 | ⟨_, rfl⟩
        · exact absurd (lt2 h2) (Nat.lt_irrefl _)
        · unfold runB
          rw [List.foldl_append]
          show nx (runB nx s0 f) c = nx s c
          rw [I.run k s f e1 e2]
    · rcases gf h1 with h1 | ⟨rfl, rfl⟩
      · rcases gf h2 with h2 | ⟨rfl, rfl⟩
        · exact I.srt i j f' g hij h1 h2
        · exact fr i f' h1
      · rcases gf h2 with h2 | ⟨rfl, rfl⟩
        · have := lt2 h2
          omega
        · omega
    · rcases gf h1 with h1 | ⟨rfl, rfl⟩
      · exact I.cu i f' h1 d hd
      · rcases List.mem_append.mp hd with h | h
        · exact I.cu k f e2 d h
        · cases List.mem_singleton.mp h
          exact hc
    · have hi : i < ord.length := by omega
      have q1 : ord[i]? = some s' := by
        rcases go h1 with h | ⟨h, _⟩
        · exact h
        · omega
      have q2 : fds[i]? = some f' := by
        rcases gf h2 with h | ⟨h, _⟩
        · exact h
        · omega
      by_cases hx : i < k ∨ (i = k ∧ d < c)
      · obtain ⟨j, g, g1, g2, g3⟩ := D i d s' f' hx hdc q1 q2
        exact ⟨j, g, up1 g1, up2 g2, g3⟩
      · have e3 : i = k ∧ d = c := by omega
        rw [e3.1, e1] at q1
        rw [e3.1, e2] at q2
        cases q1
        cases q2
        rw [e3.2]
        exact ⟨ord.length, f ++ [c], nw1, nw2, .inl rfl⟩
    · have q1 : fds[k]? = some f' := by
        rcases gf h1 with h | ⟨h, _⟩
        · exact h
        · omega
      rw [e2] at q1
      cases q1
      rcases gf h2 with h2 | ⟨_, rfl⟩
      · exact SL_trans (fr i g h2) (SL_same (Nat.lt_succ_self c))
      · exact SL_same (Nat.lt_succ_self c)
theorem col_ok {st : BSt α} {k : Nat} (I : BInv nx cues s0 st) (D : BDone nx cues st k 0) (Fr : BFront st k 0) (hk : k < st.1.length) : ∀ c, c ≤ cues →
    BInv nx cues s0 (colB nx k st c) ∧ BDone nx cues (colB nx k st c) k c ∧ BFront (colB nx k st c) k c ∧ st.1 <+: (colB nx k st c).1 ∧ st.2 <+: (colB nx k st c).2
  | 0, _ => ⟨I, D, Fr, List.prefix_refl _, List.prefix_refl _⟩
  | c + 1, hc => by
    obtain ⟨I1, D1, F1, p1, p2⟩ := col_ok I D Fr hk c (by omega)
    obtain ⟨I2, D2, F2, r1, r2⟩ := one_ok nx cues s0 I1 D1 F1 (Nat.lt_of_lt_of_le hk p1.length_le) (by omega)
    exact ⟨I2, D2, F2, p1.trans r1, p2.trans r2⟩
theorem bfs_ok : ∀ k, BInv nx cues s0 (bfsB nx cues s0 k) ∧ BDone nx cues (bfsB nx cues s0 k) k 0 ∧ (k < (bfsB nx cues s0 k).1.length → BFront (bfsB nx cues s0 k) k 0)
  | 0 => by
    refine ⟨⟨rfl, by simp [bfsB], rfl, rfl, fun i s f h1 h2 => ?_, fun i j f g hij h1 h2 => ?_, fun i f h1 c hc => ?_⟩, fun i d s f h => by omega, fun _ i f g h1 h2 => ?_⟩
    · cases i with
      | zero =>
        cases h1
        cases h2
        rfl
      | succ i => simp [bfsB] at h1
    · cases j with
      | zero => omega
      | succ j => simp [bfsB] at h2
    · cases i with
      | zero =>
        cases h1
        cases hc
      | succ i => simp [bfsB] at h1
    · cases i with
      | zero =>
        cases h1
        cases h2
        exact SL_nil
      | succ i => simp [bfsB] at h2
  | k + 1 => by
    obtain ⟨I, D, Fr⟩ := bfs_ok k
    by_cases hk : k < (bfsB nx cues s0 k).1.length
    · have e : bfsB nx cues s0 (k + 1) = colB nx k (bfsB nx cues s0 k) cues := by
        show (if k < (bfsB nx cues s0 k).1.length then _ else _) = _
        rw [if_pos hk]
      rw [e]
      obtain ⟨I1, D1, F1, p1, p2⟩ := col_ok nx cues s0 I D (Fr hk) hk cues (Nat.le_refl _)
      refine ⟨I1, fun i d s f h hd h1 h2 => D1 i d s f (by omega) hd h1 h2, fun h i f g h1 h2 => ?_⟩
      have hk2 : k < (colB nx k (bfsB nx cues s0 k) cues).2.length := by rw [I1.len]; omega
      exact SL_trans (F1 i _ g (List.getElem?_eq_getElem hk2) h2) (SL_snoc (I1.srt k (k + 1) _ f (Nat.lt_succ_self k) (List.getElem?_eq_getElem hk2) h1))
    · have e : bfsB nx cues s0 (k + 1) = bfsB nx cues s0 k := by
        show (if k < (bfsB nx cues s0 k).1.length then _ else _) = _
        rw [if_neg hk]
      rw [e]
      refine ⟨I, fun i d s f h hd h1 h2 => ?_, fun h => absurd h (by omega)⟩
      have := (List.getElem?_eq_some_iff.mp h1).1
      exact D i d s f (by omega) hd h1 h2
/-- the search is at its end: each feed leads to a place that is known by a feed that is not greater -/
theorem bfs_least {k : Nat} (hk : (bfsB nx cues s0 k).1.length ≤ k) (f : List Nat) (hf : ∀ c ∈ f, c < cues) : ∃ (j : Nat) (g : List Nat), (bfsB nx cues s0 k).1[j]? = some (runB nx s0 f) ∧ (bfsB nx cues s0 k).2[j]? = some g ∧ SLe g f := by
  obtain ⟨I, D, _⟩ := bfs_ok nx cues s0 k
  generalize hn : f.length = n
  induction n generalizing f with
  | zero =>
    cases List.length_eq_zero_iff.mp hn
    exact ⟨0, [], I.z1, I.z2, .inl rfl⟩
  | succ n ih =>
    rcases List.eq_nil_or_concat f with rfl | ⟨g0, c, e0⟩
    · cases hn
    rw [List.concat_eq_append] at e0
    subst e0
    obtain ⟨j, g, h1, h2, h3⟩ := ih g0 (fun d hd => hf d (List.mem_append_left _ hd)) (by simpa using hn)
    have hj := (List.getElem?_eq_some_iff.mp h1).1
    obtain ⟨i, g', q1, q2, q3⟩ := D j c _ g (.inl (by omega)) (hf c (List.mem_append_right _ (List.mem_singleton.mpr rfl))) h1 h2
    refine ⟨i, g', ?_, q2, SLe_trans q3 (SLe_snoc h3)⟩
    unfold runB at q1 ⊢
    rw [List.foldl_append]
    exact q1
end
/-! ### dicts, more -/
def Disp1 (p : Addr) (x y : V) (H2 : Hp) (Q : VK) : Prop := H2 p = some (.dK []) ∧ ∃ kvs : List (L2.Key × V), [(x, y)] = kvs.map (fun kv => (kV kv.1, kv.2)) ∧ kvs.length ≤ 15 ∧ Q (.ref p) (upd H2 p (.dK (mergeK [] kvs)))
theorem x_disp1 {σ : L2.St} {H : Hp} {Q : VK} {F : Hp → Prop} {cs : List (Addr × HO)} {tk tv : TE} (s : S F cs H) (h : ∀ p H', S F ((p, .dK []) :: cs) H' → tk σ H' fun x H1 => tv σ H1 fun y H2 => Disp1 p x y H2 Q) : tDisp ((tk, tv) :: []) σ H Q :=
  fun p hp => h p _ (s.alloc hp)
theorem disp1I {p : Addr} {i : Int} {y : V} {H : Hp} {Q : VK} {F : Hp → Prop} {cs : List (Addr × HO)} (s : S F ((p, .dK []) :: cs) H) (q : ∀ H', S F ((p, .dK [(.inl i, y)]) :: cs) H' → Q (.ref p) H') : Disp1 p (.int i) y H Q :=
  ⟨s.at 0 rfl, [(.inl i, y)], rfl, by simp, q _ (s.set 0 rfl _)⟩
theorem valV_is {kvs : List (L2.Key × V)} {ord : List Int} {i : Int} (hk : kvs.map Prod.fst = ord.map Sum.inl) (h : i ∈ ord) : (valV kvs (.inl i)).isSome = true := by
  have m : (.inl i : L2.Key) ∈ kvs.map Prod.fst := by
    rw [hk]
    exact List.mem_map_of_mem h
  obtain ⟨p, hp, e⟩ := List.mem_map.mp m
  rw [← valV_any]
  exact List.any_eq_true.mpr ⟨p, hp, decide_eq_true e⟩
theorem valV_no {kvs : List (L2.Key × V)} {ord : List Int} {i : Int} (hk : kvs.map Prod.fst = ord.map Sum.inl) (h : i ∉ ord) : valV kvs (.inl i) = none := by
  cases e : valV kvs (.inl i) with
  | none => rfl
  | some v =>
    have m := valV_in e
    rw [show (kvs.map fun x => x.1) = kvs.map Prod.fst from rfl, hk] at m
    obtain ⟨j, h1, h2⟩ := List.mem_map.mp m
    cases h2
    exact (h h1).elim
/-! ### a search -/
/-- at x stands a search, its list at pl, its dict at od -/
def SrchB (K : PySem.W.Frag) (B : Hp) (x pl od : Addr) : Prop := ∃ dx, B x = some (.ins (He.ga K "Search") dx [("places", .ref pl), ("_origins", .ref od)])
instance {K : PySem.W.Frag} {x pl od : Addr} : Mono (fun B => SrchB K B x pl od) := ⟨fun B B' e ⟨dx, h⟩ => ⟨dx, e _ _ h⟩⟩
instance {a : Addr} {o : HO} : Mono (fun B => B a = some o) := ⟨fun B B' e h => e _ _ h⟩
/-- the origins of the places found -/
def Org (K : PySem.W.Frag) (B : Hp) (st : BSt Int) (kvs : List (L2.Key × V)) : Prop := ∀ (j : Nat) (s : Int) (f : List Nat), st.1[j]? = some s → st.2[j]? = some f →
  ∃ v, valV kvs (.inl s) = some v ∧ ((f = [] ∧ v = .non) ∨ ∃ (z : Addr) (b : Int) (c i : Nat) (g : List Nat), v = .ref z ∧ SqT K B z [.int b, .int (c : Nat)] ∧ st.1[i]? = some b ∧ st.2[i]? = some g ∧ f = g ++ [c])
instance {K : PySem.W.Frag} {st : BSt Int} {kvs : List (L2.Key × V)} : Mono (fun B => Org K B st kvs) := ⟨fun B B' e h j s f h1 h2 => by
  obtain ⟨v, q1, q2⟩ := h j s f h1 h2
  refine ⟨v, q1, ?_⟩
  rcases q2 with q2 | ⟨z, b, c, i, g, e1, e2, e3⟩
  · exact .inl q2
  · exact .inr ⟨z, b, c, i, g, e1, Same.seqT e e2, e3⟩⟩
theorem org_snoc {K : PySem.W.Frag} {B : Hp} {ord : List Int} {fds : List (List Nat)} {kvs : List (L2.Key × V)} {p b : Int} {z : Addr} {c i : Nat} {g : List Nat} (hl : fds.length = ord.length) (h : Org K B (ord, fds) kvs) (hk : kvs.map Prod.fst = ord.map Sum.inl) (hp : p ∉ ord) (hz : SqT K B z [.int b, .int (c : Nat)])
    (h1 : ord[i]? = some b) (h2 : fds[i]? = some g) : Org K B (ord ++ [p], fds ++ [g ++ [c]]) (kvs ++ [(.inl p, .ref z)]) := by
  have up : ∀ {α : Type} {l : List α} {x y : α} {i : Nat}, l[i]? = some x → (l ++ [y])[i]? = some x := fun {α l x y i} h => by
    rw [List.getElem?_append_left (List.getElem?_eq_some_iff.mp h).1]
    exact h
  intro j s f e1 e2
  dsimp only at e1 e2
  rw [valV_snoc _ _ _ _ (valV_no hk hp)]
  by_cases hj : j < ord.length
  · rw [List.getElem?_append_left hj] at e1
    rw [List.getElem?_append_left (by omega)] at e2
    have ne : ¬ (Sum.inl s : L2.Key) = Sum.inl p := fun e => by
      cases e
      exact hp (List.mem_of_getElem? e1)
    rw [if_neg ne]
    obtain ⟨v, q1, q2⟩ := h j s f e1 e2
    refine ⟨v, q1, ?_⟩
    rcases q2 with q2 | ⟨z, b, c, i, g, q2, q3, q4, q5, q6⟩
    · exact .inl q2
    · exact .inr ⟨z, b, c, i, g, q2, q3, up q4, up q5, q6⟩
  · have hj2 := (List.getElem?_eq_some_iff.mp e1).1
    rw [List.length_append, List.length_singleton] at hj2
    obtain rfl : j = ord.length := by omega
    rw [List.getElem?_append_right (Nat.le_refl _), Nat.sub_self] at e1
    rw [← hl, List.getElem?_append_right (Nat.le_refl _), Nat.sub_self] at e2
    cases e1
    cases e2
    rw [if_pos rfl]
    exact ⟨_, rfl, .inr ⟨z, b, c, i, g, rfl, hz, up h1, up h2, rfl⟩⟩
/-- a search that is done -/
def SrchK (K : PySem.W.Frag) (B : Hp) (x : Addr) (st : BSt Int) : Prop := ∃ pl od kvs, SrchB K B x pl od ∧ SqL K B pl (st.1.map V.int) ∧ B od = some (.dK kvs) ∧ kvs.map Prod.fst = st.1.map Sum.inl ∧ Org K B st kvs
instance {K : PySem.W.Frag} {x : Addr} {st : BSt Int} : Mono (fun B => SrchK K B x st) := ⟨fun B B' e ⟨pl, od, kvs, h1, h2, h3, h4, h5⟩ => ⟨pl, od, kvs, Mono.up (F := fun B => SrchB K B x pl od) B B' e h1, Mono.up (F := fun B => SqB true K B pl (st.1.map V.int)) B B' e h2, e _ _ h3, h4, Mono.up (F := fun B => Org K B st kvs) B B' e h5⟩⟩
/-- an origin, and the feed that it stands for -/
def OrgV (K : PySem.W.Frag) (B : Hp) (st : BSt Int) (v : V) (f : List Nat) : Prop := (f = [] ∧ v = .non) ∨ ∃ (z : Addr) (b : Int) (c i : Nat) (g : List Nat), v = .ref z ∧ SqT K B z [.int b, .int (c : Nat)] ∧ st.1[i]? = some b ∧ st.2[i]? = some g ∧ f = g ++ [c]
instance {K : PySem.W.Frag} {st : BSt Int} {v : V} {f : List Nat} : Mono (fun B => OrgV K B st v f) := ⟨fun B B' e q2 => by
  rcases q2 with q2 | ⟨z, b, c, i, g, e1, e2, e3⟩
  · exact .inl q2
  · exact .inr ⟨z, b, c, i, g, e1, Same.seqT e e2, e3⟩⟩
theorem S.srch {K : PySem.W.Frag} {F : Hp → Prop} {cs : List (Addr × HO)} {H : Hp} {y : Addr} {st : BSt Int} (s : S F cs H) (hF : ∀ B, F B → SrchK K B y st) : ∃ pl od kvs, S (fun B => (SrchB K B y pl od ∧ SqB true K B pl (st.1.map V.int) ∧ B od = some (.dK kvs) ∧ kvs.map Prod.fst = st.1.map Sum.inl ∧ Org K B st kvs) ∧ F B) cs H := by
  have mF := s.mono
  obtain ⟨pl, s⟩ := (s.imp (G := fun B => ∃ pl, ∃ od, ∃ kvs, (SrchB K B y pl od ∧ SqB true K B pl (st.1.map V.int) ∧ B od = some (.dK kvs) ∧ kvs.map Prod.fst = st.1.map Sum.inl ∧ Org K B st kvs) ∧ F B) fun B f => by
    obtain ⟨pl, od, kvs, h1, h2, h3, h4, h5⟩ := hF B f
    exact ⟨pl, od, kvs, ⟨h1, h2, h3, h4, h5⟩, f⟩).exE
  obtain ⟨od, s⟩ := s.exE
  obtain ⟨kvs, s⟩ := s.exE
  exact ⟨pl, od, kvs, s⟩
theorem S.orgv {K : PySem.W.Frag} {F : Hp → Prop} {cs : List (Addr × HO)} {H : Hp} {st : BSt Int} {kvs : List (L2.Key × V)} (s : S F cs H) (hF : ∀ B, F B → Org K B st kvs) {j : Nat} {p : Int} {f : List Nat} (h1 : st.1[j]? = some p) (h2 : st.2[j]? = some f) :
    ∃ v, valV kvs (.inl p) = some v ∧ S (fun B => OrgV K B st v f ∧ F B) cs H := by
  have mF := s.mono
  obtain ⟨v, e, _⟩ := hF _ s.fact j p f h1 h2
  refine ⟨v, e, s.imp fun B h => ⟨?_, h⟩⟩
  obtain ⟨v2, e2, q⟩ := hF B h j p f h1 h2
  rw [e] at e2
  cases e2
  exact q
theorem feed_len {α : Type} [DecidableEq α] (nx : α → Nat → α) (cues : Nat) (s0 : α) (k : Nat) : ∀ (i : Nat) f, (bfsB nx cues s0 k).2[i]? = some f → f.length ≤ i := by
  have one : ∀ (st : BSt α) (k c : Nat), k < st.1.length → (st.2.length = st.1.length ∧ ∀ (i : Nat) f, st.2[i]? = some f → f.length ≤ i) →
      st.1.length ≤ (oneB nx k st c).1.length ∧ (oneB nx k st c).2.length = (oneB nx k st c).1.length ∧ ∀ (i : Nat) f, (oneB nx k st c).2[i]? = some f → f.length ≤ i := by
    intro st k c hk ⟨h1, h2⟩
    unfold oneB
    split
    · rename_i s f e1 e2
      split
      · exact ⟨Nat.le_refl _, h1, h2⟩
      · refine ⟨by simp, by simp [h1], fun i g hg => ?_⟩
        by_cases hi : i < st.2.length
        · rw [List.getElem?_append_left hi] at hg
          exact h2 i g hg
        · have h3 := (List.getElem?_eq_some_iff.mp hg).1
          rw [List.length_append, List.length_singleton] at h3
          obtain rfl : i = st.2.length := by omega
          rw [List.getElem?_append_right (Nat.le_refl _), Nat.sub_self] at hg
          cases hg
          have := h2 k f e2
          rw [List.length_append, List.length_singleton]
          omega
    · exact ⟨Nat.le_refl _, h1, h2⟩
  have col : ∀ (st : BSt α) (k : Nat), k < st.1.length → (st.2.length = st.1.length ∧ ∀ (i : Nat) f, st.2[i]? = some f → f.length ≤ i) → ∀ c,
      st.1.length ≤ (colB nx k st c).1.length ∧ (colB nx k st c).2.length = (colB nx k st c).1.length ∧ ∀ (i : Nat) f, (colB nx k st c).2[i]? = some f → f.length ≤ i := by
    intro st k hk h c
    induction c with
    | zero => exact ⟨Nat.le_refl _, h⟩
    | succ c ih =>
      obtain ⟨i1, i2, i3⟩ := one (colB nx k st c) k c (by omega) ih.2
      exact ⟨by show _ ≤ (oneB nx k (colB nx k st c) c).1.length; omega, i2, i3⟩
  have all : ∀ k, (bfsB nx cues s0 k).2.length = (bfsB nx cues s0 k).1.length ∧ ∀ (i : Nat) f, (bfsB nx cues s0 k).2[i]? = some f → f.length ≤ i := by
    intro k
    induction k with
    | zero =>
      refine ⟨rfl, fun i f h => ?_⟩
      cases i with
      | zero => cases h; exact Nat.le_refl _
      | succ i => simp [bfsB] at h
    | succ k ih =>
      show (if k < (bfsB nx cues s0 k).1.length then colB nx k (bfsB nx cues s0 k) cues else bfsB nx cues s0 k).2.length = (if k < (bfsB nx cues s0 k).1.length then colB nx k (bfsB nx cues s0 k) cues else bfsB nx cues s0 k).1.length ∧ ∀ (i : Nat) f, (if k < (bfsB nx cues s0 k).1.length then colB nx k (bfsB nx cues s0 k) cues else bfsB nx cues s0 k).2[i]? = some f → f.length ≤ i
      split
      · rename_i hk
        exact (col _ k hk ih cues).2
      · exact ih
  exact (all k).2
def fI (f : List Nat) : List Int := f.map fun (n : Nat) => (n : Int)
theorem prefix_get {α : Type} {l l' : List α} (p : l <+: l') {i : Nat} {x : α} (h : l[i]? = some x) : l'[i]? = some x := by
  obtain ⟨t, rfl⟩ := p
  rw [List.getElem?_append_left (List.getElem?_eq_some_iff.mp h).1]
  exact h
def nxC (c : CD) : Int → Nat → Int := fun s k => nextI c.rows s (k : Nat)
theorem nxC_ok {N : Nat} {c : CD} (g : c.goodN N) {s : Int} {k : Nat} (hs : 0 ≤ s ∧ s < c.rows.length) (hk : k < c.cues.toNat) : 0 ≤ nxC c s k ∧ nxC c s k < c.rows.length := by
  obtain ⟨row, e, _, _, e3, _, ok⟩ := ent_get g (c := (k : Nat)) hs (by omega)
  unfold nxC
  rw [← e3]
  exact ok.1
/-- what the search of a control has found after k places -/
def srC (c : CD) (k : Nat) : BSt Int := bfsB (nxC c) c.cues.toNat c.start k
def endC (c : CD) : BSt Int := srC c c.rows.length
theorem run_ok {N : Nat} {c : CD} (g : c.goodN N) : ∀ (f : List Nat) (s : Int), (∀ k ∈ f, k < c.cues.toNat) → (0 ≤ s ∧ s < c.rows.length) → 0 ≤ runB (nxC c) s f ∧ runB (nxC c) s f < c.rows.length
  | [], s, _, hs => hs
  | k :: f, s, hf, hs => run_ok g f (nxC c s k) (fun d hd => hf d (List.mem_cons_of_mem _ hd)) (nxC_ok g hs (hf k (List.mem_cons_self ..)))
theorem inv_ok {c : CD} (g : c.good) {st : BSt Int} (I : BInv (nxC c) c.cues.toNat c.start st) : ∀ s ∈ st.1, 0 ≤ s ∧ s < c.rows.length := by
  intro s hs
  obtain ⟨i, hi⟩ := List.mem_iff_getElem?.mp hs
  have hl : i < st.2.length := by rw [I.len]; exact (List.getElem?_eq_some_iff.mp hi).1
  have e := List.getElem?_eq_getElem hl
  rw [← I.run i s _ hi e]
  exact run_ok g _ _ (I.cu i _ e) g.st
theorem inv_len {c : CD} (g : c.good) {st : BSt Int} (I : BInv (nxC c) c.cues.toNat c.start st) : st.1.length ≤ c.rows.length := nodup_int _ _ I.nd (inv_ok g I)
theorem bfs_stay {α : Type} [DecidableEq α] {nx : α → Nat → α} {cues : Nat} {s0 : α} {k : Nat} (h : (bfsB nx cues s0 k).1.length ≤ k) : ∀ d, bfsB nx cues s0 (k + d) = bfsB nx cues s0 k
  | 0 => rfl
  | d + 1 => by
    have e := bfs_stay h d
    show (if k + d < (bfsB nx cues s0 (k + d)).1.length then colB nx (k + d) (bfsB nx cues s0 (k + d)) cues else bfsB nx cues s0 (k + d)) = _
    rw [e, if_neg (by omega)]
theorem srC_end {c : CD} (g : c.good) {k : Nat} (h : (srC c k).1.length ≤ k) : srC c k = endC c := by
  have h2 : (endC c).1.length ≤ c.rows.length := inv_len g (bfs_ok _ _ _ _).1
  by_cases hk : k ≤ c.rows.length
  · have e := bfs_stay h (c.rows.length - k)
    rw [Nat.add_sub_cancel' hk] at e
    exact e.symm
  · have e := bfs_stay h2 (k - c.rows.length)
    rw [Nat.add_sub_cancel' (by omega)] at e
    exact e
section
variable {α : Type} [DecidableEq α] (nx : α → Nat → α) (cues : Nat) (s0 : α)
theorem one_pre (k : Nat) (st : BSt α) (c : Nat) : st.1 <+: (oneB nx k st c).1 := by
  unfold oneB
  split
  · split
    · exact List.prefix_refl _
    · exact List.prefix_append _ _
  · exact List.prefix_refl _
theorem col_pre (k : Nat) (st : BSt α) (c : Nat) : ∀ d, (colB nx k st c).1 <+: (colB nx k st (c + d)).1
  | 0 => List.prefix_refl _
  | d + 1 => (col_pre k st c d).trans (one_pre nx k _ _)
theorem bfs_pre (k : Nat) : ∀ d, (bfsB nx cues s0 k).1 <+: (bfsB nx cues s0 (k + d)).1
  | 0 => List.prefix_refl _
  | d + 1 => (bfs_pre k d).trans (by
    show _ <+: (if k + d < (bfsB nx cues s0 (k + d)).1.length then _ else _ : BSt α).1
    split
    · have := col_pre nx (k + d) (bfsB nx cues s0 (k + d)) 0 cues
      rw [Nat.zero_add] at this
      exact this
    · exact List.prefix_refl _)
end
def feedD (f : List Nat) : PyData := .tuple ((fI f).map PyData.int)
theorem feedD_sq {K : PySem.W.Frag} {B : Hp} {t : Addr} {f : List Nat} (h : SqT K B t ((fI f).map V.int)) : Dp K B (.ref t) (feedD f) := .tup h (dpAll_ints _)
theorem feedD_inv {K : PySem.W.Frag} {B : Hp} {v : V} {f : List Nat} (h : Dp K B v (feedD f)) : ∃ t, v = .ref t ∧ SqT K B t ((fI f).map V.int) := by
  unfold feedD at h
  cases h with
  | tup h k =>
    rw [dpAll_intE k] at h
    exact ⟨_, rfl, h⟩
theorem fI_ok {cues : Int} {f : List Nat} (h : ∀ c ∈ f, c < cues.toNat) : FeedOk cues (fI f) := fun n hn => by
  unfold fI at hn
  obtain ⟨c, hc, rfl⟩ := List.mem_map.mp hn
  have := h c hc
  omega
theorem fI_len {f : List Nat} : (fI f).length = f.length := by unfold fI; simp
theorem sta_run (c : CD) (s0 : Int) (f : List Nat) : staI c.rows s0 (fI f) f.length = runB (nxC c) s0 f := by
  unfold staI runB
  rw [List.take_of_length_le (by rw [fI_len]; exact Nat.le_refl _)]
  unfold fI
  rw [List.foldl_map]
  rfl
/-! ### two controls side by side -/
section
variable {α : Type} [DecidableEq α] (nx : α → Nat → α) (cues : Nat) (s0 : α)
theorem one_pre2 (k : Nat) (st : BSt α) (c : Nat) : st.2 <+: (oneB nx k st c).2 := by
  unfold oneB
  split
  · split
    · exact List.prefix_refl _
    · exact List.prefix_append _ _
  · exact List.prefix_refl _
theorem col_pre2 (k : Nat) (st : BSt α) (c : Nat) : ∀ d, (colB nx k st c).2 <+: (colB nx k st (c + d)).2
  | 0 => List.prefix_refl _
  | d + 1 => (col_pre2 k st c d).trans (one_pre2 nx k _ _)
theorem bfs_pre2 (k : Nat) : ∀ d, (bfsB nx cues s0 k).2 <+: (bfsB nx cues s0 (k + d)).2
  | 0 => List.prefix_refl _
  | d + 1 => (bfs_pre2 k d).trans (by
    show _ <+: (if k + d < (bfsB nx cues s0 (k + d)).1.length then _ else _ : BSt α).2
    split
    · have := col_pre2 nx (k + d) (bfsB nx cues s0 (k + d)) 0 cues
      rw [Nat.zero_add] at this
      exact this
    · exact List.prefix_refl _)
theorem gen_end {N : Nat} (hN : ∀ k, (bfsB nx cues s0 k).1.length ≤ N) {k : Nat} (h : (bfsB nx cues s0 k).1.length ≤ k) : bfsB nx cues s0 k = bfsB nx cues s0 N := by
  by_cases hk : k ≤ N
  · have e := bfs_stay h (N - k)
    rw [Nat.add_sub_cancel' hk] at e
    exact e.symm
  · have e := bfs_stay (hN N) (k - N)
    rw [Nat.add_sub_cancel' (by omega)] at e
    exact e
theorem gen_pre {N : Nat} (hN : ∀ k, (bfsB nx cues s0 k).1.length ≤ N) (k : Nat) : (bfsB nx cues s0 k).1 <+: (bfsB nx cues s0 N).1 ∧ (bfsB nx cues s0 k).2 <+: (bfsB nx cues s0 N).2 := by
  by_cases h : k ≤ N
  · have h1 := bfs_pre nx cues s0 k (N - k)
    have h2 := bfs_pre2 nx cues s0 k (N - k)
    rw [Nat.add_sub_cancel' h] at h1 h2
    exact ⟨h1, h2⟩
  · rw [gen_end nx cues s0 hN (Nat.le_trans (hN k) (by omega))]
    exact ⟨List.prefix_refl _, List.prefix_refl _⟩
end
section
variable {α β : Type} [DecidableEq α] [DecidableEq β] {nx : α → Nat → α} {nx' : β → Nat → β} {φ : α → β} (hφ : ∀ a b, φ a = φ b → a = b) (hnx : ∀ a k, nx' (φ a) k = φ (nx a k))
include hφ hnx
theorem one_map (k : Nat) (st : BSt α) (c : Nat) : oneB nx' k (st.1.map φ, st.2) c = ((oneB nx k st c).1.map φ, (oneB nx k st c).2) := by
  obtain ⟨o, f⟩ := st
  unfold oneB
  dsimp only
  rw [List.getElem?_map]
  cases e1 : o[k]? with
  | none => rfl
  | some s =>
    cases e2 : f[k]? with
    | none => rfl
    | some g =>
      dsimp only [Option.map_some]
      rw [hnx]
      by_cases h : nx s c ∈ o
      · rw [if_pos h, if_pos (List.mem_map_of_mem h)]
      · rw [if_neg h, if_neg fun z => by
          obtain ⟨b, hb, e⟩ := List.mem_map.mp z
          exact h (hφ _ _ e ▸ hb)]
        simp
theorem col_map (k : Nat) (st : BSt α) : ∀ c, colB nx' k (st.1.map φ, st.2) c = ((colB nx k st c).1.map φ, (colB nx k st c).2)
  | 0 => rfl
  | c + 1 => by
    show oneB nx' k (colB nx' k _ c) c = _
    rw [col_map k st c]
    exact one_map hφ hnx k _ c
theorem bfs_map (cues : Nat) (s0 : α) : ∀ k, bfsB nx' cues (φ s0) k = ((bfsB nx cues s0 k).1.map φ, (bfsB nx cues s0 k).2)
  | 0 => rfl
  | k + 1 => by
    show (if k < (bfsB nx' cues (φ s0) k).1.length then colB nx' k (bfsB nx' cues (φ s0) k) cues else bfsB nx' cues (φ s0) k) = ((if k < (bfsB nx cues s0 k).1.length then colB nx k (bfsB nx cues s0 k) cues else bfsB nx cues s0 k).1.map φ, (if k < (bfsB nx cues s0 k).1.length then colB nx k (bfsB nx cues s0 k) cues else bfsB nx cues s0 k).2)
    rw [bfs_map cues s0 k]
    dsimp only
    rw [List.length_map]
    split
    · exact col_map hφ hnx k _ cues
    · rfl
end
theorem oneB_in {α : Type} [DecidableEq α] (nx : α → Nat → α) {st : BSt α} {k c : Nat} {s : α} {f : List Nat} (h1 : st.1[k]? = some s) (h2 : st.2[k]? = some f) (h : nx s c ∈ st.1) : oneB nx k st c = st := by
  unfold oneB
  rw [h1, h2]
  exact if_pos h
theorem oneB_out {α : Type} [DecidableEq α] (nx : α → Nat → α) {st : BSt α} {k c : Nat} {s : α} {f : List Nat} (h1 : st.1[k]? = some s) (h2 : st.2[k]? = some f) (h : nx s c ∉ st.1) : oneB nx k st c = (st.1 ++ [nx s c], st.2 ++ [f ++ [c]]) := by
  unfold oneB
  rw [h1, h2]
  exact if_neg h
def nxP (c1 c2 : CD) : Int × Int → Nat → Int × Int := fun p k => (nextI c1.rows p.1 (k : Nat), nextI c2.rows p.2 (k : Nat))
def srP (c1 c2 : CD) (k : Nat) : BSt (Int × Int) := bfsB (nxP c1 c2) c1.cues.toNat (c1.start, c2.start) k
def endP (c1 c2 : CD) : BSt (Int × Int) := srP c1 c2 (c1.rows.length * c2.rows.length)
def okP (c1 c2 : CD) (p : Int × Int) : Prop := (0 ≤ p.1 ∧ p.1 < c1.rows.length) ∧ 0 ≤ p.2 ∧ p.2 < c2.rows.length
def difP (c1 c2 : CD) (p : Int × Int) (k : Nat) : Prop := repI c1.rows p.1 (k : Nat) ≠ repI c2.rows p.2 (k : Nat)
structure TwoN (N : Nat) (c1 c2 : CD) : Prop where
  g1 : c1.goodN N
  g2 : c2.goodN N
  cu : c2.cues = c1.cues
abbrev Two := TwoN 64
theorem TwoN.swap {N : Nat} {c1 c2 : CD} (t : TwoN N c1 c2) : TwoN N c2 c1 := ⟨t.g2, t.g1, t.cu.symm⟩
theorem nxP_ok {N : Nat} {c1 c2 : CD} (t : TwoN N c1 c2) {p : Int × Int} {k : Nat} (h : okP c1 c2 p) (hk : k < c1.cues.toNat) : okP c1 c2 (nxP c1 c2 p k) := ⟨nxC_ok t.g1 h.1 hk, nxC_ok t.g2 h.2 (by rw [t.cu]; exact hk)⟩
theorem runP_eq (c1 c2 : CD) : ∀ (f : List Nat) (a b : Int), runB (nxP c1 c2) (a, b) f = (runB (nxC c1) a f, runB (nxC c2) b f)
  | [], _, _ => rfl
  | k :: f, a, b => runP_eq c1 c2 f (nxC c1 a k) (nxC c2 b k)
theorem runP_ok {N : Nat} {c1 c2 : CD} (t : TwoN N c1 c2) : ∀ (f : List Nat) (p : Int × Int), (∀ k ∈ f, k < c1.cues.toNat) → okP c1 c2 p → okP c1 c2 (runB (nxP c1 c2) p f)
  | [], _, _, h => h
  | k :: f, p, hf, h => runP_ok t f (nxP c1 c2 p k) (fun d hd => hf d (List.mem_cons_of_mem _ hd)) (nxP_ok t h (hf k (List.mem_cons_self ..)))
theorem invP_ok {N : Nat} {c1 c2 : CD} (t : TwoN N c1 c2) {st : BSt (Int × Int)} (I : BInv (nxP c1 c2) c1.cues.toNat (c1.start, c2.start) st) : ∀ p ∈ st.1, okP c1 c2 p := by
  intro s hs
  obtain ⟨i, hi⟩ := List.mem_iff_getElem?.mp hs
  have hl : i < st.2.length := by rw [I.len]; exact (List.getElem?_eq_some_iff.mp hi).1
  have e := List.getElem?_eq_getElem hl
  rw [← I.run i s _ hi e]
  exact runP_ok t _ _ (I.cu i _ e) ⟨t.g1.st, t.g2.st⟩
section
variable {N : Nat} {c1 c2 : CD} (t : TwoN N c1 c2)
include t
theorem srP_len (k : Nat) : (srP c1 c2 k).1.length ≤ c1.rows.length * c2.rows.length := by
  have I := (bfs_ok (nxP c1 c2) c1.cues.toNat (c1.start, c2.start) k).1
  exact nodup_pair I.nd (invP_ok t I)
theorem srP_end {k : Nat} (h : (srP c1 c2 k).1.length ≤ k) : srP c1 c2 k = endP c1 c2 := gen_end _ _ _ (srP_len t) h
theorem srP_pre (k : Nat) : (srP c1 c2 k).1 <+: (endP c1 c2).1 ∧ (srP c1 c2 k).2 <+: (endP c1 c2).2 := gen_pre _ _ _ (srP_len t) k
end
theorem endP_inv (c1 c2 : CD) : BInv (nxP c1 c2) c1.cues.toNat (c1.start, c2.start) (endP c1 c2) := (bfs_ok _ _ _ _).1
theorem endP_least {N : Nat} {c1 c2 : CD} (t : TwoN N c1 c2) (f : List Nat) (hf : ∀ k ∈ f, k < c1.cues.toNat) : ∃ (j : Nat) (h : List Nat), (endP c1 c2).1[j]? = some (runB (nxP c1 c2) (c1.start, c2.start) f) ∧ (endP c1 c2).2[j]? = some h ∧ SLe h f := bfs_least _ _ _ (srP_len t _) f hf
/-- the first place at which the two reply differently -/
structure ApartK (c1 c2 : CD) (k : Nat) (p : Int × Int) (f : List Nat) (cue : Nat) : Prop where
  pl : (endP c1 c2).1[k]? = some p
  fd : (endP c1 c2).2[k]? = some f
  c : cue < c1.cues.toNat
  dif : difP c1 c2 p cue
  low : ∀ d, d < cue → ¬ difP c1 c2 p d
  ear : ∀ (j : Nat) p', j < k → (endP c1 c2).1[j]? = some p' → ∀ d, d < c1.cues.toNat → ¬ difP c1 c2 p' d
def AlikeP (c1 c2 : CD) : Prop := ∀ p ∈ (endP c1 c2).1, ∀ d, d < c1.cues.toNat → ¬ difP c1 c2 p d
def VerdF (c1 c2 : CD) : Option (List Nat) → Prop
  | none => AlikeP c1 c2
  | some g => ∃ k p f cue, ApartK c1 c2 k p f cue ∧ g = f ++ [cue]
theorem verd_uniq {c1 c2 : CD} {u v : Option (List Nat)} (h1 : VerdF c1 c2 u) (h2 : VerdF c1 c2 v) : u = v := by
  cases u with
  | none =>
    cases v with
    | none => rfl
    | some g =>
      obtain ⟨k, p, f, cue, a, _⟩ := h2
      exact absurd a.dif (h1 p (mem_of_get a.pl) cue a.c)
  | some g =>
    obtain ⟨k, p, f, cue, a, rfl⟩ := h1
    cases v with
    | none => exact absurd a.dif (h2 p (mem_of_get a.pl) cue a.c)
    | some g' =>
      obtain ⟨k', p', f', cue', b, rfl⟩ := h2
      have ek : k = k' := by
        rcases Nat.lt_trichotomy k k' with z | z | z
        · exact absurd a.dif (b.ear k p z a.pl cue a.c)
        · exact z
        · exact absurd b.dif (a.ear k' p' z b.pl cue' b.c)
      subst ek
      have ep : p = p' := Option.some.inj (a.pl.symm.trans b.pl)
      have ef : f = f' := Option.some.inj (a.fd.symm.trans b.fd)
      subst ep ef
      have ec : cue = cue' := by
        rcases Nat.lt_trichotomy cue cue' with z | z | z
        · exact absurd a.dif (b.low cue z)
        · exact z
        · exact absurd b.dif (a.low cue' z)
      rw [ec]
theorem endP_swap {N : Nat} {c1 c2 : CD} (t : TwoN N c1 c2) : endP c2 c1 = ((endP c1 c2).1.map fun p => (p.2, p.1), (endP c1 c2).2) := by
  have := bfs_map (nx := nxP c1 c2) (nx' := nxP c2 c1) (φ := fun p => (p.2, p.1)) (fun a b e => by
    have e1 : a.2 = b.2 := congrArg Prod.fst e
    have e2 : a.1 = b.1 := congrArg Prod.snd e
    exact Prod.ext e2 e1) (fun _ _ => rfl) c1.cues.toNat (c1.start, c2.start) (c1.rows.length * c2.rows.length)
  show bfsB (nxP c2 c1) c2.cues.toNat (c2.start, c1.start) (c2.rows.length * c1.rows.length) = _
  rw [t.cu, Nat.mul_comm c2.rows.length]
  exact this
theorem difP_swap {c1 c2 : CD} {p : Int × Int} {k : Nat} : difP c2 c1 (p.2, p.1) k ↔ difP c1 c2 p k := ⟨fun h e => h e.symm, fun h e => h e.symm⟩
theorem verd_swap {N : Nat} {c1 c2 : CD} (t : TwoN N c1 c2) {v : Option (List Nat)} (h : VerdF c1 c2 v) : VerdF c2 c1 v := by
  have es := endP_swap t
  have e1 : (endP c2 c1).1 = (endP c1 c2).1.map fun p => (p.2, p.1) := by rw [es]
  have e2 : (endP c2 c1).2 = (endP c1 c2).2 := by rw [es]
  cases v with
  | none =>
    intro p hp d hd
    rw [e1] at hp
    obtain ⟨q, hq, rfl⟩ := List.mem_map.mp hp
    rw [t.cu] at hd
    exact fun z => h q hq d hd (difP_swap.mp z)
  | some g =>
    obtain ⟨k, p, f, cue, a, rfl⟩ := h
    refine ⟨k, (p.2, p.1), f, cue, ⟨by rw [e1, List.getElem?_map, a.pl]; rfl, by rw [e2]; exact a.fd, by rw [t.cu]; exact a.c, difP_swap.mpr a.dif, fun d hd z => a.low d hd (difP_swap.mp z), fun j p' hj hp d hd => ?_⟩, rfl⟩
    rw [e1, List.getElem?_map] at hp
    obtain ⟨q, hq, rfl⟩ := Option.map_eq_some_iff.mp hp
    rw [t.cu] at hd
    exact fun z => a.ear j q hj hq d hd (difP_swap.mp z)
theorem fI_of {cues : Int} {ns : List Int} (h : FeedOk cues ns) : ∃ f : List Nat, ns = fI f ∧ ∀ c ∈ f, c < cues.toNat := by
  refine ⟨ns.map Int.toNat, ?_, fun c hc => ?_⟩
  · unfold fI
    rw [List.map_map]
    apply List.ext_getElem
    · simp
    · intro i h1 h2
      have := h _ (List.getElem_mem h1)
      simp
      omega
  · obtain ⟨n, hn, rfl⟩ := List.mem_map.mp hc
    have := h n hn
    omega
theorem repS_run (c : CD) (s0 : Int) {f : List Nat} {j k : Nat} (h : f[j]? = some k) : repS c.rows s0 (fI f) j = repI c.rows (runB (nxC c) s0 (f.take j)) (k : Nat) := by
  have e : (fI f)[j]? = some (k : Int) := by
    unfold fI
    rw [List.getElem?_map, h]
    rfl
  rw [repS_at e]
  congr 1
  unfold staI runB fI
  rw [← List.map_take, List.foldl_map]
  rfl
theorem alike_rep {N : Nat} {c1 c2 : CD} (t : TwoN N c1 c2) (h : AlikeP c1 c2) {ns : List Int} (hf : FeedOk c1.cues ns) {j : Nat} (hj : j < ns.length) : repS c1.rows c1.start ns j = repS c2.rows c2.start ns j := by
  obtain ⟨f, rfl, hf2⟩ := fI_of hf
  rw [fI_len] at hj
  have e : f[j]? = some f[j] := List.getElem?_eq_getElem hj
  have hk := hf2 _ (mem_of_get e)
  generalize f[j] = k at e hk
  rw [repS_run c1 c1.start e, repS_run c2 c2.start e]
  obtain ⟨i, g, h1, _⟩ := endP_least t (f.take j) fun c hc => hf2 c (List.mem_of_mem_take hc)
  rw [runP_eq] at h1
  exact Classical.not_not.mp (h _ (mem_of_get h1) k hk)
/-- at a feed that is less than f the two reply alike -/
theorem apart_low {N : Nat} {c1 c2 : CD} (t : TwoN N c1 c2) {k : Nat} {p : Int × Int} {f : List Nat} {cue : Nat} (a : ApartK c1 c2 k p f cue) {w : List Nat} (hw : ∀ c ∈ w, c < c1.cues.toNat) (hl : w.length < f.length) {d : Nat} (hd : d < c1.cues.toNat) :
    repI c1.rows (runB (nxC c1) c1.start w) (d : Nat) = repI c2.rows (runB (nxC c2) c2.start w) (d : Nat) := by
  obtain ⟨i, g, h1, h2, h3⟩ := endP_least t w hw
  rw [runP_eq] at h1
  refine Classical.byContradiction fun ne => ?_
  have hi : k ≤ i := by
    rcases Nat.lt_or_ge i k with z | z
    · exact absurd (show difP c1 c2 (runB (nxC c1) c1.start w, runB (nxC c2) c2.start w) d from ne) (a.ear i _ z h1 d hd)
    · exact z
  have hfg : SLe f g := by
    rcases Nat.eq_or_lt_of_le hi with rfl | z
    · rw [a.fd] at h2
      cases h2
      exact .inl rfl
    · exact .inr ((endP_inv c1 c2).srt k i f g z a.fd h2)
  rcases SLe_trans hfg h3 with rfl | z | ⟨z, _⟩
  · omega
  · omega
  · omega
theorem apart_less {N : Nat} {c1 c2 : CD} (t : TwoN N c1 c2) {k : Nat} {p : Int × Int} {f : List Nat} {cue : Nat} (a : ApartK c1 c2 k p f cue) {j : Nat} (hj : j < f.length) : repS c1.rows c1.start (fI f) j = repS c2.rows c2.start (fI f) j := by
  have e : f[j]? = some f[j] := List.getElem?_eq_getElem hj
  have hcu := (endP_inv c1 c2).cu k f a.fd
  have hk := hcu _ (mem_of_get e)
  generalize f[j] = d at e hk
  rw [repS_run c1 c1.start e, repS_run c2 c2.start e]
  exact apart_low t a (fun c hc => hcu c (List.mem_of_mem_take hc)) (by rw [List.length_take]; omega) hk
theorem apart_dif {c1 c2 : CD} {k : Nat} {p : Int × Int} {f : List Nat} {cue : Nat} (a : ApartK c1 c2 k p f cue) : repS c1.rows c1.start (fI (f ++ [cue])) f.length ≠ repS c2.rows c2.start (fI (f ++ [cue])) f.length := by
  have e : (f ++ [cue])[f.length]? = some cue := by simp
  rw [repS_run c1 c1.start e, repS_run c2 c2.start e]
  have ht : (f ++ [cue]).take f.length = f := by simp
  rw [ht]
  have hr := (endP_inv c1 c2).run k p f a.pl a.fd
  rw [runP_eq] at hr
  have := a.dif
  rw [← hr] at this
  exact this
/-- the states of both, the second ones' numbers behind the first -/
def nxU (c1 c2 : CD) (u k : Nat) : Nat := if u < c1.rows.length then (nextI c1.rows (u : Nat) (k : Nat)).toNat else c1.rows.length + (nextI c2.rows ((u - c1.rows.length : Nat) : Int) (k : Nat)).toNat
def repU (c1 c2 : CD) (u k : Nat) : Int := if u < c1.rows.length then repI c1.rows (u : Nat) (k : Nat) else repI c2.rows ((u - c1.rows.length : Nat) : Int) (k : Nat)
section
variable {N : Nat} {c1 c2 : CD} (t : TwoN N c1 c2)
include t
theorem nxU_lt (u : Nat) (hu : u < c1.rows.length + c2.rows.length) (k : Nat) (hk : k < c1.cues.toNat) : nxU c1 c2 u k < c1.rows.length + c2.rows.length := by
  unfold nxU
  by_cases h : u < c1.rows.length
  · rw [if_pos h]
    have := nxC_ok t.g1 (s := (u : Nat)) (k := k) (by omega) hk
    unfold nxC at this
    omega
  · rw [if_neg h]
    have := nxC_ok t.g2 (s := ((u - c1.rows.length : Nat) : Int)) (k := k) (by omega) (by rw [t.cu]; exact hk)
    unfold nxC at this
    omega
theorem runU1 : ∀ (w : List Nat) (a : Int), (∀ c ∈ w, c < c1.cues.toNat) → (0 ≤ a ∧ a < c1.rows.length) → w.foldl (nxU c1 c2) a.toNat = (runB (nxC c1) a w).toNat
  | [], _, _, _ => rfl
  | k :: w, a, hw, ha => by
    have e : nxU c1 c2 a.toNat k = (nxC c1 a k).toNat := by
      unfold nxU nxC
      rw [if_pos (by omega), Int.toNat_of_nonneg ha.1]
    show w.foldl (nxU c1 c2) (nxU c1 c2 a.toNat k) = (runB (nxC c1) (nxC c1 a k) w).toNat
    rw [e]
    exact runU1 w _ (fun c hc => hw c (List.mem_cons_of_mem _ hc)) (nxC_ok t.g1 ha (hw k (List.mem_cons_self ..)))
theorem runU2 : ∀ (w : List Nat) (b : Int), (∀ c ∈ w, c < c1.cues.toNat) → (0 ≤ b ∧ b < c2.rows.length) → w.foldl (nxU c1 c2) (c1.rows.length + b.toNat) = c1.rows.length + (runB (nxC c2) b w).toNat
  | [], _, _, _ => rfl
  | k :: w, b, hw, hb => by
    have e : nxU c1 c2 (c1.rows.length + b.toNat) k = c1.rows.length + (nxC c2 b k).toNat := by
      unfold nxU nxC
      rw [if_neg (by omega), Nat.add_sub_cancel_left, Int.toNat_of_nonneg hb.1]
    show w.foldl (nxU c1 c2) (nxU c1 c2 (c1.rows.length + b.toNat) k) = c1.rows.length + (runB (nxC c2) (nxC c2 b k) w).toNat
    rw [e]
    exact runU2 w _ (fun c hc => hw c (List.mem_cons_of_mem _ hc)) (nxC_ok t.g2 hb (by rw [t.cu]; exact hw k (List.mem_cons_self ..)))
theorem repU_run {w : List Nat} (hw : ∀ c ∈ w, c < c1.cues.toNat) (d : Nat) : repU c1 c2 (w.foldl (nxU c1 c2) c1.start.toNat) d = repI c1.rows (runB (nxC c1) c1.start w) (d : Nat) ∧ repU c1 c2 (w.foldl (nxU c1 c2) (c1.rows.length + c2.start.toNat)) d = repI c2.rows (runB (nxC c2) c2.start w) (d : Nat) := by
  have o1 := run_ok t.g1 w c1.start hw t.g1.st
  have o2 := run_ok t.g2 w c2.start (by rw [t.cu]; exact hw) t.g2.st
  rw [runU1 t w _ hw t.g1.st, runU2 t w _ hw t.g2.st]
  unfold repU
  rw [if_pos (by omega), if_neg (by omega), Int.toNat_of_nonneg o1.1, Nat.add_sub_cancel_left, Int.toNat_of_nonneg o2.1]
  exact ⟨rfl, rfl⟩
end
theorem apart_len {N : Nat} {c1 c2 : CD} (t : TwoN N c1 c2) {k : Nat} {p : Int × Int} {f : List Nat} {cue : Nat} (a : ApartK c1 c2 k p f cue) : (f ++ [cue]).length < c1.rows.length + c2.rows.length := by
  rw [List.length_append, List.length_singleton]
  have hcu := (endP_inv c1 c2).cu k f a.fd
  have s1 := t.g1.st
  have s2 := t.g2.st
  refine moore (nxU c1 c2) (repU c1 c2) c1.cues.toNat (u := c1.start.toNat) (v := c1.rows.length + c2.start.toNat) (nxU_lt t) (by omega) (by omega) (fun w hw hl d hd => ?_) fun h => ?_
  · obtain ⟨e1, e2⟩ := repU_run t hw d
    rw [e1, e2]
    exact apart_low t a hw hl hd
  · have h := h f hcu (Nat.lt_succ_self _) cue a.c
    obtain ⟨e1, e2⟩ := repU_run t hcu cue
    rw [e1, e2] at h
    have hr := (endP_inv c1 c2).run k p f a.pl a.fd
    rw [runP_eq] at hr
    have d := a.dif
    rw [← hr] at d
    exact d h
/-! ### a search over pairs -/
def pairD (p : Int × Int) : PyData := .tuple [.int p.1, .int p.2]
/-- at z stands the pair p, a tuple of this run -/
def PairAt (B : Hp) (z : Addr) (p : Int × Int) : Prop := B z = some (.tup [.int p.1, .int p.2])
instance {z : Addr} {p : Int × Int} : Mono (fun B => PairAt B z p) := ⟨fun B B' e h => e _ _ h⟩
theorem PairAt.sq {K : PySem.W.Frag} {B : Hp} {z : Addr} {p : Int × Int} (h : PairAt B z p) : SqT K B z [.int p.1, .int p.2] := sq_t h
def PlP (B : Hp) (qs : List V) (ord : List (Int × Int)) : Prop := qs.length = ord.length ∧ ∀ (i : Nat) p, ord[i]? = some p → ∃ z, qs[i]? = some (.ref z) ∧ PairAt B z p
instance {qs : List V} {ord : List (Int × Int)} : Mono (fun B => PlP B qs ord) := ⟨fun B B' e h => ⟨h.1, fun i p hp => let ⟨z, h1, h2⟩ := h.2 i p hp; ⟨z, h1, e _ _ h2⟩⟩⟩
theorem PlP.dp {K : PySem.W.Frag} {B : Hp} {qs : List V} {ord : List (Int × Int)} (h : PlP B qs ord) : DpAll K B qs (ord.map pairD) := dpAll_of (by rw [List.length_map]; exact h.1) fun i d hd => by
  rw [List.getElem?_map] at hd
  obtain ⟨p, hp, rfl⟩ := Option.map_eq_some_iff.mp hd
  obtain ⟨z, h1, h2⟩ := h.2 i p hp
  exact ⟨_, h1, .tup h2.sq (.cons (.int _) (.cons (.int _) .nil))⟩
theorem PlP.at {B : Hp} {qs : List V} {ord : List (Int × Int)} (h : PlP B qs ord) {i : Nat} {p : Int × Int} {z : Addr} (hp : ord[i]? = some p) (hz : qs[i]? = some (.ref z)) : PairAt B z p := by
  obtain ⟨z', h1, h2⟩ := h.2 i p hp
  rw [hz] at h1
  cases h1
  exact h2
theorem PlP.snoc {B : Hp} {qs : List V} {ord : List (Int × Int)} (h : PlP B qs ord) {z : Addr} {p : Int × Int} (hz : PairAt B z p) : PlP B (qs ++ [.ref z]) (ord ++ [p]) := by
  refine ⟨by rw [List.length_append, List.length_append, h.1]; rfl, fun i q hq => ?_⟩
  by_cases hi : i < ord.length
  · rw [List.getElem?_append_left hi] at hq
    rw [List.getElem?_append_left (by rw [h.1]; exact hi)]
    exact h.2 i q hq
  · have h2 := (List.getElem?_eq_some_iff.mp hq).1
    rw [List.length_append, List.length_singleton] at h2
    obtain rfl : i = ord.length := by omega
    rw [List.getElem?_append_right (Nat.le_refl _), Nat.sub_self] at hq
    cases hq
    rw [← h.1, List.getElem?_append_right (Nat.le_refl _), Nat.sub_self]
    exact ⟨z, rfl, hz⟩
def OrgPV (K : PySem.W.Frag) (B : Hp) (st : BSt (Int × Int)) (v : V) (f : List Nat) : Prop := (f = [] ∧ v = .non) ∨ ∃ (z y : Addr) (b : Int × Int) (c i : Nat) (g : List Nat), v = .ref z ∧ SqT K B z [.ref y, .int (c : Nat)] ∧ PairAt B y b ∧ st.1[i]? = some b ∧ st.2[i]? = some g ∧ f = g ++ [c]
instance {K : PySem.W.Frag} {st : BSt (Int × Int)} {v : V} {f : List Nat} : Mono (fun B => OrgPV K B st v f) := ⟨fun B B' e q2 => by
  rcases q2 with q2 | ⟨z, y, b, c, i, g, e1, e2, e3, e4⟩
  · exact .inl q2
  · exact .inr ⟨z, y, b, c, i, g, e1, Same.seqT e e2, e _ _ e3, e4⟩⟩
def OrgP (K : PySem.W.Frag) (B : Hp) (st : BSt (Int × Int)) (kvs : List (List L2.Key × V)) : Prop := ∀ (j : Nat) (s : Int × Int) (f : List Nat), st.1[j]? = some s → st.2[j]? = some f → ∃ v, valV kvs (PK s) = some v ∧ OrgPV K B st v f
instance {K : PySem.W.Frag} {st : BSt (Int × Int)} {kvs : List (List L2.Key × V)} : Mono (fun B => OrgP K B st kvs) := ⟨fun B B' e h j s f h1 h2 => by
  obtain ⟨v, q1, q2⟩ := h j s f h1 h2
  exact ⟨v, q1, Mono.up (F := fun B => OrgPV K B st v f) B B' e q2⟩⟩
theorem orgP_snoc {K : PySem.W.Frag} {B : Hp} {ord : List (Int × Int)} {fds : List (List Nat)} {kvs : List (List L2.Key × V)} {p b : Int × Int} {z y : Addr} {c i : Nat} {g : List Nat} (hl : fds.length = ord.length) (h : OrgP K B (ord, fds) kvs) (hk : kvs.map Prod.fst = ord.map PK) (hp : p ∉ ord) (hz : SqT K B z [.ref y, .int (c : Nat)])
    (hy : PairAt B y b) (h1 : ord[i]? = some b) (h2 : fds[i]? = some g) : OrgP K B (ord ++ [p], fds ++ [g ++ [c]]) (kvs ++ [(PK p, .ref z)]) := by
  have up : ∀ {α : Type} {l : List α} {x y : α} {i : Nat}, l[i]? = some x → (l ++ [y])[i]? = some x := fun {α l x y i} h => by
    rw [List.getElem?_append_left (List.getElem?_eq_some_iff.mp h).1]
    exact h
  have hno : valV kvs (PK p) = none := valV_not (by rw [hk]; exact fun z => hp (pk_mem.mp z))
  intro j s f e1 e2
  dsimp only at e1 e2
  rw [valV_snoc _ _ _ _ hno]
  by_cases hj : j < ord.length
  · rw [List.getElem?_append_left hj] at e1
    rw [List.getElem?_append_left (by omega)] at e2
    have ne : ¬ PK s = PK p := fun e => hp (PK_inj e ▸ List.mem_of_getElem? e1)
    rw [if_neg ne]
    obtain ⟨v, q1, q2⟩ := h j s f e1 e2
    refine ⟨v, q1, ?_⟩
    rcases q2 with q2 | ⟨z, y, b, c, i, g, q2, q3, q0, q4, q5, q6⟩
    · exact .inl q2
    · exact .inr ⟨z, y, b, c, i, g, q2, q3, q0, up q4, up q5, q6⟩
  · have hj2 := (List.getElem?_eq_some_iff.mp e1).1
    rw [List.length_append, List.length_singleton] at hj2
    obtain rfl : j = ord.length := by omega
    rw [List.getElem?_append_right (Nat.le_refl _), Nat.sub_self] at e1
    rw [← hl, List.getElem?_append_right (Nat.le_refl _), Nat.sub_self] at e2
    cases e1
    cases e2
    rw [if_pos rfl]
    exact ⟨_, rfl, .inr ⟨z, y, b, c, i, g, rfl, hz, hy, up h1, up h2, rfl⟩⟩
/-- a search over pairs that is done -/
def SrchPK (K : PySem.W.Frag) (B : Hp) (x : Addr) (st : BSt (Int × Int)) : Prop := ∃ pl od kvs qs, SrchB K B x pl od ∧ SqL K B pl qs ∧ PlP B qs st.1 ∧ B od = some (.dT kvs) ∧ kvs.map Prod.fst = st.1.map PK ∧ OrgP K B st kvs
instance {K : PySem.W.Frag} {x : Addr} {st : BSt (Int × Int)} : Mono (fun B => SrchPK K B x st) := ⟨fun B B' e ⟨pl, od, kvs, qs, h1, h2, h0, h3, h4, h5⟩ => ⟨pl, od, kvs, qs, Mono.up (F := fun B => SrchB K B x pl od) B B' e h1, Mono.up (F := fun B => SqB true K B pl qs) B B' e h2, Mono.up (F := fun B => PlP B qs st.1) B B' e h0, e _ _ h3, h4, Mono.up (F := fun B => OrgP K B st kvs) B B' e h5⟩⟩
theorem S.srchP {K : PySem.W.Frag} {F : Hp → Prop} {cs : List (Addr × HO)} {H : Hp} {y : Addr} {st : BSt (Int × Int)} (s : S F cs H) (hF : ∀ B, F B → SrchPK K B y st) : ∃ pl od kvs qs, S (fun B => (SrchB K B y pl od ∧ SqB true K B pl qs ∧ PlP B qs st.1 ∧ B od = some (.dT kvs) ∧ kvs.map Prod.fst = st.1.map PK ∧ OrgP K B st kvs) ∧ F B) cs H := by
  have mF := s.mono
  obtain ⟨pl, s⟩ := (s.imp (G := fun B => ∃ pl, ∃ od, ∃ kvs, ∃ qs, (SrchB K B y pl od ∧ SqB true K B pl qs ∧ PlP B qs st.1 ∧ B od = some (.dT kvs) ∧ kvs.map Prod.fst = st.1.map PK ∧ OrgP K B st kvs) ∧ F B) fun B f => by
    obtain ⟨pl, od, kvs, qs, h⟩ := hF B f
    exact ⟨pl, od, kvs, qs, h, f⟩).exE
  obtain ⟨od, s⟩ := s.exE
  obtain ⟨kvs, s⟩ := s.exE
  obtain ⟨qs, s⟩ := s.exE
  exact ⟨pl, od, kvs, qs, s⟩
theorem S.orgP {K : PySem.W.Frag} {F : Hp → Prop} {cs : List (Addr × HO)} {H : Hp} {st : BSt (Int × Int)} {kvs : List (List L2.Key × V)} (s : S F cs H) (hF : ∀ B, F B → OrgP K B st kvs) {j : Nat} {p : Int × Int} {f : List Nat} (h1 : st.1[j]? = some p) (h2 : st.2[j]? = some f) :
    ∃ v, valV kvs (PK p) = some v ∧ S (fun B => OrgPV K B st v f ∧ F B) cs H := by
  have mF := s.mono
  obtain ⟨v, e, _⟩ := hF _ s.fact j p f h1 h2
  refine ⟨v, e, s.imp fun B h => ⟨?_, h⟩⟩
  obtain ⟨v2, e2, q⟩ := hF B h j p f h1 h2
  rw [e] at e2
  cases e2
  exact q
def DispT (p : Addr) (x y : V) (H2 : Hp) (Q : VK) : Prop := H2 p = some (.dT []) ∧ ∃ (b : Addr) (k : List L2.Key), x = .ref b ∧ H2 b = some (.tup (k.map kV)) ∧ Q (.ref p) (upd H2 p (.dT [(k, y)]))
theorem x_dispT1 {σ : L2.St} {H : Hp} {Q : VK} {F : Hp → Prop} {cs : List (Addr × HO)} {tk tv : TE} (s : S F cs H) (h : ∀ p H', S F ((p, .dT []) :: cs) H' → tk σ H' fun x H1 => tv σ H1 fun y H2 => DispT p x y H2 Q) : tDispT1 tk tv σ H Q :=
  fun p hp => h p _ (s.alloc hp)
theorem dispT1 {p b : Addr} {q : Int × Int} {y : V} {H : Hp} {Q : VK} {F : Hp → Prop} {cs : List (Addr × HO)} (s : S F ((b, .tup [.int q.1, .int q.2]) :: (p, .dT []) :: cs) H) (k : ∀ H', S F ((b, .tup [.int q.1, .int q.2]) :: (p, .dT [(PK q, y)]) :: cs) H' → Q (.ref p) H') : DispT p (.ref b) y H Q :=
  ⟨s.at 1 rfl, b, PK q, rfl, s.at 0 rfl, k _ (s.set 1 rfl _)⟩
theorem x_m_srch {K : PySem.W.Frag} {H : Hp} {x pl od : Addr} {m : Str} {R : Prop} (h : SrchB K H x pl od) (l : ([("places", V.ref pl), ("_origins", V.ref od)] : List (Str × V)).lookup m = none) (q : R) : MethW (He.ga K "Search") m (.ref x) H R := by
  obtain ⟨dx, h⟩ := h
  exact x_m h l q
section
variable {K : PySem.W.Frag} {H : Hp} {Q : VK} {x pl od : Addr}
theorem x_places (κ : KF K) (h : SrchB K H x pl od) (q : Q (.ref pl) H) : FldW K "places" (.ref x) H Q := by
  obtain ⟨dx, h⟩ := h
  exact x_f (kfld_Search_places κ) h rfl q
theorem x_origins (κ : KF K) (h : SrchB K H x pl od) (q : Q (.ref od) H) : FldW K "_origins" (.ref x) H Q := by
  obtain ⟨dx, h⟩ := h
  exact x_f (kfld_Search__origins κ) h rfl q
end
def sp_Search__init (K : PySem.W.Frag) : Sp := fun vs H Q _ => ∃ (F : Hp → Prop) (cs : List (Addr × HO)) (x dx q : Addr) (first : Int × Int), vs = [.ref x, .ref q] ∧ S F ((x, .ins (He.ga K "Search") dx []) :: cs) H ∧ (∀ B, F B → PairAt B q first) ∧
  ∀ pl od H', S (fun B => SrchB K B x pl od ∧ F B) ((od, .dT [(PK first, .non)]) :: (pl, .lst [.ref q]) :: cs) H' → Q .non H'
def t_Search__init (K : PySem.W.Frag) (E : XK) : TS := tSeq (sFld K (tVar 0) (tLst (tCons (tVar 1) (tNil))) "places") (sFld K (tVar 0) (tDispT1 (tVar 1) (tC .non)) "_origins")
theorem pure_Search__init {K : PySem.W.Frag} (κ : KF K) (vs : List V) (H : Hp) (Q : VK) (E : XK) (h : sp_Search__init K vs H Q E) : t_Search__init K E ⟨fun _ H' => Q .non H', Q, fun _ _ => False, fun _ _ => False⟩ (start [("self" : Str), "first"] vs) H := by
  unfold t_Search__init
  obtain ⟨F, cs, x, dx, q, first, rfl, s, hq, k⟩ := h
  refine x_start (σ' := [some _, some _]) ?_ rfl
  walk_at "sx"
  refine x_newL (by simp) s fun pl H1 s => ?_
  walk_at "sx"
  refine x_sf s (kfld_Search_places κ) (n := 1) rfl (by show 0 < 1000; decide) fun H1 s => ?_
  walk_at "sx"
  refine x_dispT1 s fun od H2 s => ?_
  walk_at "sx"
  refine ⟨s.at 0 rfl, q, PK first, rfl, hq _ s.fact, ?_⟩
  have s := s.set 0 rfl (.dT [(PK first, .non)])
  refine x_var (v := .ref x) rfl ?_
  refine x_sf s (kfld_Search__origins κ) (n := 2) rfl (by show 1 < 1000; decide) fun H1 s => ?_
  have s := s.front (k := 2) rfl
  have mF := s.mono
  exact k pl od _ (S.freeze (G := fun B => SrchB K B x pl od ∧ F B) s fun B f e => ⟨⟨dx, e⟩, f⟩)
/-! ### Search.take: slots 0 self 1 place 2 before 3 cue -/
def sp_Search_take (K : PySem.W.Frag) : Sp := fun vs H Q _ => ∃ (F : Hp → Prop) (cs : List (Addr × HO)) (x pl od z y : Addr) (kvs : List (List L2.Key × V)) (qs : List V) (ord : List (Int × Int)) (place : Int × Int) (cue : Int), vs = [.ref x, .ref z, .ref y, .int cue] ∧ S F ((od, .dT kvs) :: (pl, .lst qs) :: cs) H ∧
  (∀ B, F B → SrchB K B x pl od ∧ PairAt B z place) ∧ kvs.map Prod.fst = ord.map PK ∧ (ord.length < 1000000 ∧ qs.length = ord.length) ∧
  (place ∈ ord → ∀ H', S F ((od, .dT kvs) :: (pl, .lst qs) :: cs) H' → Q .non H') ∧
  (place ∉ ord → ∀ t H', S (fun B => SqT K B t [.ref y, .int cue] ∧ F B) ((od, .dT (kvs ++ [(PK place, .ref t)])) :: (pl, .lst (qs ++ [.ref z])) :: cs) H' → Q .non H')
def t_Search_take (K : PySem.W.Frag) (E : XK) : TS := tIfS (tB (tDNotIn (tVar 1) (tFld K (tVar 0) "_origins"))) (tSeq (sDPut (tFld K (tVar 0) "_origins") (tVar 1) (tTup (tCons (tVar 2) (tCons (tVar 3) (tNil))))) (tDrop (tBM K "list" rAppend (tFld K (tVar 0) "places") (tCons (tVar 1) (tNil))))) (tNext)
theorem pure_Search_take {K : PySem.W.Frag} (κ : KF K) (vs : List V) (H : Hp) (Q : VK) (E : XK) (h : sp_Search_take K vs H Q E) : t_Search_take K E ⟨fun _ H' => Q .non H', Q, fun _ _ => False, fun _ _ => False⟩ (start [("self" : Str), "place", "before", "cue"] vs) H := by
  unfold t_Search_take
  obtain ⟨F, cs, x, pl, od, z, y, kvs, qs, ord, place, cue, rfl, s, hF, hk, ⟨hn, hq⟩, q1, q2⟩ := h
  refine x_start (σ' := [some _, some _, some _, some _]) ?_ rfl
  have mF := s.mono
  have hlen : kvs.length = ord.length := by
    have := congrArg List.length hk
    simpa using this
  walk_at "sx"
  refine x_origins κ (hF _ s.fact).1 ?_
  walk_at "sx"
  refine x_diT (kt := PK place) (s.at 0 rfl) (hF _ s.fact).2 ?_
  by_cases hm : place ∈ ord
  · rw [valV_mem (by rw [hk]; exact pk_mem.mpr hm)]
    walk_at "sx"
    exact q1 hm _ s
  · have e : valV kvs (PK place) = none := valV_not (by rw [hk]; exact fun z => hm (pk_mem.mp z))
    rw [e]
    walk_at "sx"
    rw [if_pos (show (if true = true then !(none : Option V).isSome else (none : Option V).isSome) = true from rfl)]
    walk_at "sx"
    refine x_newT (by simp) s fun t H1 s => ?_
    have s := s.freezeT (K := K)
    walk_at "sx"
    refine x_origins κ (hF _ s.fact.2).1 ?_
    walk_at "sx"
    refine x_dpT (kt := PK place) s (n := 0) rfl (hF _ s.fact.2).2 (by omega) fun H2 s => ?_
    rw [putK_new _ e] at s
    walk_at "sx"
    refine x_places κ (hF _ s.fact.2).1 ?_
    walk_at "sx"
    refine x_append s (k := 1) rfl (by rw [hq]; exact big_sz (by omega)) fun H3 s => ?_
    walk_at "sx"
    exact q2 hm t _ s
/-! ### Search.feed_to: slots 0 self 1 place 2 cues 3 origin 4 before 5 cue -/
def sp_Search_feed_to (K : PySem.W.Frag) : Sp := fun vs H Q _ => ∃ (F : Hp → Prop) (cs : List (Addr × HO)) (y w : Addr) (st : BSt (Int × Int)) (j : Nat) (p : Int × Int) (f : List Nat), vs = [.ref y, .ref w] ∧ S F cs H ∧ (∀ B, F B → SrchPK K B y st ∧ PairAt B w p) ∧ st.1[j]? = some p ∧ st.2[j]? = some f ∧ f.length < 1000000 ∧
  ∀ t H', S (fun B => SqB false K B t ((fI f).map V.int) ∧ F B) cs H' → Q (.ref t) H'
def t_Search_feed_to (K : PySem.W.Frag) (E : XK) : TS := tSeq (tAsg (tLst (tNil)) (gName 2)) (tSeq (tAsg (tDGet (tFld K (tVar 0) "_origins") (tVar 1)) (gName 3)) (tSeq (tWhile (tTest (tOp rIsNot1 (tVar 3) (tC .non))) (tSeq (tAsg (tVar 3) (gTup K 2 (gCons (gName 4) (gCons (gName 5) (gNil))))) (tSeq (tDrop (tBM K "list" rAppend (tVar 2) (tCons (tVar 5) (tNil)))) (tAsg (tDGet (tFld K (tVar 0) "_origins") (tVar 4)) (gName 3))))) (tSeq (tDrop (tBM0 K "list" rReverse (tVar 2))) (tRet (tCB (rTuple1 K) (tCons (tVar 2) (tNil)))))))
theorem pure_Search_feed_to {K : PySem.W.Frag} (κ : KF K) (vs : List V) (H : Hp) (Q : VK) (E : XK) (h : sp_Search_feed_to K vs H Q E) : t_Search_feed_to K E ⟨fun _ H' => Q .non H', Q, fun _ _ => False, fun _ _ => False⟩ (start [("self" : Str), "place", "cues", "origin", "before", "cue"] vs) H := by
  unfold t_Search_feed_to
  obtain ⟨F, cs, y, w, st, j, p, f, rfl, s, hF, h1, h2, hl, q⟩ := h
  refine x_start (σ' := [some _, some _, none, none, none, none]) ?_ rfl
  have mF0 := s.mono
  obtain ⟨pl, od, kvs, qs, s⟩ := s.srchP fun B h => (hF B h).1
  have mF := s.mono
  walk_at "sx"
  refine x_newL (by simp) s fun l H1 s => ?_
  walk_at "sx"
  refine x_origins κ s.fact.1.1 ?_
  walk_at "sx"
  obtain ⟨v, e, s⟩ := s.orgP (fun B h => h.1.2.2.2.2.2) h1 h2
  refine x_dgT (kt := PK p) s.fact.2.1.2.2.2.1 (hF _ s.fact.2.2).2 e ?_
  walk_at "sx"
  refine x_whileN (fun m σ' H' => ∃ (a b : List Nat) (v : V) (v4 v5 : Option V), σ' = [some (.ref y), some (.ref w), some (.ref l), some v, v4, v5] ∧ m = a.length ∧ f = a ++ b.reverse ∧ S (fun B => OrgPV K B st v a ∧ (SrchB K B y pl od ∧ SqB true K B pl qs ∧ PlP B qs st.1 ∧ B od = some (.dT kvs) ∧ kvs.map Prod.fst = st.1.map PK ∧ OrgP K B st kvs) ∧ F B) ((l, .lst ((fI b).map V.int)) :: cs) H') f.length ⟨f, [], v, _, _, rfl, rfl, by simp, s⟩ ?_
  rintro m σ' H2 ⟨a, b, v, v4, v5, rfl, rfl, ef, s⟩
  walk_at "sx"
  by_cases hv : v = .non
  · have hnil : a = [] := by
      rcases s.fact.1 with ⟨h, _⟩ | ⟨z, u, b0, c, i, g, h, _⟩
      · exact h
      · rw [hv] at h
        cases h
    subst hv hnil
    rw [if_neg (by decide)]
    walk_at "sx"
    refine x_reverse s (n := 0) rfl fun H3 s => ?_
    walk_at "sx"
    refine x_tupof (sq_l (s.at 0 rfl)) s fun t H4 s => ?_
    have s := s.freezeT (K := K)
    have s := s.drop1
    refine q t _ (s.imp fun B h => ⟨?_, h.2.2.2⟩)
    have e : f = b.reverse := ef
    rw [e]
    have h := h.1
    rw [show (fI b.reverse).map V.int = ((fI b).map V.int).reverse by unfold fI; rw [List.map_reverse, List.map_reverse]]
    exact h
  · obtain ⟨z, u, b0, c, i, g, s⟩ : ∃ z u b0 c i g, S (fun B => (v = .ref z ∧ SqT K B z [.ref u, .int (c : Nat)] ∧ PairAt B u b0 ∧ st.1[i]? = some b0 ∧ st.2[i]? = some g ∧ a = g ++ [c]) ∧ (SrchB K B y pl od ∧ SqB true K B pl qs ∧ PlP B qs st.1 ∧ B od = some (.dT kvs) ∧ kvs.map Prod.fst = st.1.map PK ∧ OrgP K B st kvs) ∧ F B) ((l, .lst ((fI b).map V.int)) :: cs) H2 := by
      obtain ⟨z, s⟩ := (s.imp (G := fun B => ∃ z, ∃ u, ∃ b0 : Int × Int, ∃ c i : Nat, ∃ g : List Nat, (v = .ref z ∧ SqT K B z [.ref u, .int (c : Nat)] ∧ PairAt B u b0 ∧ st.1[i]? = some b0 ∧ st.2[i]? = some g ∧ a = g ++ [c]) ∧ (SrchB K B y pl od ∧ SqB true K B pl qs ∧ PlP B qs st.1 ∧ B od = some (.dT kvs) ∧ kvs.map Prod.fst = st.1.map PK ∧ OrgP K B st kvs) ∧ F B) fun B h => by
        rcases h.1 with ⟨_, h1⟩ | ⟨z, u, b0, c, i, g, h1⟩
        · exact absurd h1 hv
        · exact ⟨z, u, b0, c, i, g, h1, h.2⟩).exE
      obtain ⟨u, s⟩ := s.exE
      obtain ⟨b0, s⟩ := s.exE
      obtain ⟨c, s⟩ := s.exE
      obtain ⟨i, s⟩ := s.exE
      obtain ⟨g, s⟩ := s.exE
      exact ⟨z, u, b0, c, i, g, s⟩
    obtain ⟨rfl, _, _, g1, g2, rfl⟩ := s.fact.1
    rw [if_pos (by rfl)]
    refine ⟨fun σ' H' => ∃ m', m' < (g ++ [c]).length ∧ ∃ (a b : List Nat) (v : V) (v4 v5 : Option V), σ' = [some (.ref y), some (.ref w), some (.ref l), some v, v4, v5] ∧ m' = a.length ∧ f = a ++ b.reverse ∧ S (fun B => OrgPV K B st v a ∧ (SrchB K B y pl od ∧ SqB true K B pl qs ∧ PlP B qs st.1 ∧ B od = some (.dT kvs) ∧ kvs.map Prod.fst = st.1.map PK ∧ OrgP K B st kvs) ∧ F B) ((l, .lst ((fI b).map V.int)) :: cs) H', fun _ _ h => h, ?_⟩
    walk_at "sx"
    refine x_gtup s.fact.1.2.1 rfl ?_
    walk_at "sx"
    have hl3 : b.length ≤ f.length := by rw [ef]; simp only [List.length_append, List.length_reverse]; omega
    refine x_append s (k := 0) rfl (by rw [List.length_map]; unfold fI; rw [List.length_map]; exact big_sz (by omega)) fun H3 s => ?_
    walk_at "sx"
    refine x_origins κ s.fact.2.1.1 ?_
    walk_at "sx"
    obtain ⟨v, e, s⟩ := s.orgP (fun B h => h.2.1.2.2.2.2.2) g1 g2
    refine x_dgT (kt := PK b0) s.fact.2.2.1.2.2.2.1 s.fact.2.1.2.2.1 e ?_
    walk_at "sx"
    refine ⟨g.length, by simp, g, b ++ [c], v, _, _, rfl, rfl, by rw [ef]; simp, ?_⟩
    have e : (fI (b ++ [c])).map V.int = (fI b).map V.int ++ [V.int (c : Nat)] := by
      unfold fI
      rw [List.map_append, List.map_append]
      rfl
    rw [e]
    exact s.imp fun B h => ⟨h.1, h.2.2⟩
/-! ### _ordered: slots 0 first 1 second -/
/-! ### feeds that lead all states to one -/
theorem nodup_sub_len {α : Type} [DecidableEq α] : ∀ {l m : List α}, l.Nodup → (∀ x ∈ l, x ∈ m) → l.length ≤ m.length
  | [], _, _, _ => Nat.zero_le _
  | a :: l, m, h, hs => by
    have h2 := List.nodup_cons.mp h
    have ha := hs a (List.mem_cons_self ..)
    have := nodup_sub_len (l := l) (m := m.erase a) h2.2 fun x hx => (List.mem_erase_of_ne fun e => h2.1 (by rw [← e]; exact hx)).mpr (hs x (List.mem_cons_of_mem _ hx))
    rw [List.length_erase_of_mem ha] at this
    have := List.length_pos_of_mem ha
    rw [List.length_cons]
    omega
def ordP (p : Int × Int) : Int × Int := if p.1 ≤ p.2 then p else (p.2, p.1)
theorem ordP_le (p : Int × Int) : (ordP p).1 ≤ (ordP p).2 := by
  unfold ordP
  split
  · assumption
  · show p.2 ≤ p.1
    omega
theorem ordP_or (p : Int × Int) : ordP p = p ∨ ordP p = (p.2, p.1) := by
  unfold ordP
  split
  · exact .inl rfl
  · exact .inr rfl
theorem ordP_same {p : Int × Int} (h : p.1 ≤ p.2) : ordP p = p := if_pos h
theorem ordP_swap (p : Int × Int) : ordP (p.2, p.1) = ordP p := by
  obtain ⟨a, b⟩ := p
  unfold ordP
  dsimp only
  by_cases h1 : a ≤ b
  · by_cases h2 : b ≤ a
    · obtain rfl : a = b := by omega
      rfl
    · rw [if_pos h1, if_neg h2]
  · rw [if_neg h1, if_pos (by omega)]
theorem ordP_eq (p : Int × Int) : (ordP p).1 = (ordP p).2 ↔ p.1 = p.2 := by
  rcases ordP_or p with h | h
  · rw [h]
  · rw [h]
    exact ⟨Eq.symm, Eq.symm⟩
def nxO (c : CD) : Int × Int → Nat → Int × Int := fun p k => ordP (nextI c.rows p.1 (k : Nat), nextI c.rows p.2 (k : Nat))
def srO (c : CD) (p0 : Int × Int) (k : Nat) : BSt (Int × Int) := bfsB (nxO c) c.cues.toNat p0 k
def inP (c : CD) (p : Int × Int) : Prop := (0 ≤ p.1 ∧ p.1 < c.rows.length) ∧ 0 ≤ p.2 ∧ p.2 < c.rows.length
theorem ordP_in {c : CD} {p : Int × Int} (h : inP c p) : inP c (ordP p) := by
  rcases ordP_or p with e | e
  · rw [e]; exact h
  · rw [e]; exact ⟨h.2, h.1⟩
theorem nxI_in {c : CD} (g : c.good) {s : Int} (hs : 0 ≤ s ∧ s < c.rows.length) {k : Nat} (hk : k < c.cues.toNat) : 0 ≤ nextI c.rows s (k : Nat) ∧ nextI c.rows s (k : Nat) < c.rows.length := nxC_ok g hs hk
theorem nxO_in {c : CD} (g : c.good) {p : Int × Int} (h : inP c p) {k : Nat} (hk : k < c.cues.toNat) : inP c (nxO c p k) := ordP_in ⟨nxI_in g h.1 hk, nxI_in g h.2 hk⟩
/-- the ordered pair behind a feed -/
theorem runO {c : CD} : ∀ (w : List Nat) (p : Int × Int), p.1 ≤ p.2 → runB (nxO c) p w = ordP (runB (nxC c) p.1 w, runB (nxC c) p.2 w)
  | [], p, h => (ordP_same h).symm
  | k :: w, p, h => by
    show runB (nxO c) (nxO c p k) w = ordP (runB (nxC c) (nxC c p.1 k) w, runB (nxC c) (nxC c p.2 k) w)
    have e0 := runO (c := c) w (nxO c p k) (ordP_le _)
    rw [e0]
    rcases ordP_or (nextI c.rows p.1 (k : Nat), nextI c.rows p.2 (k : Nat)) with e | e
    · unfold nxO
      rw [e]
      rfl
    · unfold nxO
      rw [e]
      exact ordP_swap (runB (nxC c) (nxC c p.1 k) w, runB (nxC c) (nxC c p.2 k) w)
theorem invO_in {c : CD} (g : c.good) {p0 : Int × Int} (h0 : inP c p0) {st : BSt (Int × Int)} (I : BInv (nxO c) c.cues.toNat p0 st) : ∀ p ∈ st.1, inP c p := by
  have run : ∀ (w : List Nat) (p : Int × Int), (∀ k ∈ w, k < c.cues.toNat) → inP c p → inP c (runB (nxO c) p w) := fun w => by
    induction w with
    | nil => exact fun p _ h => h
    | cons k w ih => exact fun p hw h => ih _ (fun d hd => hw d (List.mem_cons_of_mem _ hd)) (nxO_in g h (hw k (List.mem_cons_self ..)))
  intro p hp
  obtain ⟨i, hi⟩ := List.mem_iff_getElem?.mp hp
  have hl := (List.getElem?_eq_some_iff.mp hi).1
  have hf := List.getElem?_eq_getElem (show i < st.2.length by rw [I.len]; exact hl)
  rw [← I.run i p _ hi hf]
  exact run _ _ (I.cu i _ hf) h0
/-- two states that are not one, the lesser first -/
def ltP (c : CD) (p : Int × Int) : Prop := inP c p ∧ p.1 < p.2
theorem half_pairs {n : Nat} {l : List (Int × Int)} (nd : l.Nodup) (h : ∀ p ∈ l, (0 ≤ p.1 ∧ p.1 < n) ∧ (0 ≤ p.2 ∧ p.2 < n) ∧ p.1 < p.2) : 2 * l.length + n ≤ n * n := by
  have h1 : (l ++ l.map (fun p => (p.2, p.1)) ++ (List.range n).map (fun i : Nat => ((i : Int), (i : Int)))).Nodup := by
    rw [List.nodup_append]
    refine ⟨?_, ?_, ?_⟩
    · rw [List.nodup_append]
      have nd2 : (l.map fun p => (p.2, p.1)).Nodup := List.pairwise_map.mpr (nd.imp fun {a b} hab e => hab (Prod.ext (Prod.mk.inj e).2 (Prod.mk.inj e).1))
      refine ⟨nd, nd2, fun a ha b hb e => ?_⟩
      · obtain ⟨p, hp, rfl⟩ := List.mem_map.mp hb
        have := (h a ha).2.2
        have := (h p hp).2.2
        subst e
        dsimp only at *
        omega
    · exact List.pairwise_map.mpr (List.nodup_range.imp fun {a b} hab e => hab (Int.ofNat.inj (Prod.mk.inj e).1))
    · intro a ha b hb e
      obtain ⟨i, hi, rfl⟩ := List.mem_map.mp hb
      subst e
      rcases List.mem_append.mp ha with z | z
      · have := (h _ z).2.2
        dsimp only at this
        omega
      · obtain ⟨p, hp, e⟩ := List.mem_map.mp z
        have := (h p hp).2.2
        have e1 := (Prod.mk.inj e).1
        have e2 := (Prod.mk.inj e).2
        omega
  have h2 := nodup_pair (n := n) (m := n) h1 fun p hp => by
    rcases List.mem_append.mp hp with z | z
    · rcases List.mem_append.mp z with z | z
      · exact ⟨(h p z).1, (h p z).2.1⟩
      · obtain ⟨q, hq, rfl⟩ := List.mem_map.mp z
        exact ⟨(h q hq).2.1, (h q hq).1⟩
    · obtain ⟨i, hi, rfl⟩ := List.mem_map.mp z
      have := List.mem_range.mp hi
      exact ⟨⟨by show (0 : Int) ≤ (i : Int); omega, by show (i : Int) < (n : Int); omega⟩, by show (0 : Int) ≤ (i : Int); omega, by show (i : Int) < (n : Int); omega⟩
  rw [List.length_append, List.length_append, List.length_map, List.length_map, List.length_range] at h2
  omega
/-- pairs that never merge -/
def NevS (c : CD) (ps : List (Int × Int)) : Prop := ps ≠ [] ∧ ps.length ≤ c.rows.length * c.rows.length ∧ ∀ p ∈ ps, ltP c p ∧ ∀ k, k < c.cues.toNat → nxO c p k ∈ ps
def stE (c : CD) (ns : List Int) (s : Nat) : Nat := (staI c.rows (s : Nat) ns ns.length).toNat
theorem stE_ok {c : CD} (g : c.good) {ns : List Int} (h : FeedOk c.cues ns) {s : Nat} (hs : s < c.rows.length) : staI c.rows (s : Nat) ns ns.length = ((stE c ns s : Nat) : Int) ∧ stE c ns s < c.rows.length := by
  have := staI_ok g h (s0 := (s : Nat)) ⟨by omega, by omega⟩ ns.length
  unfold stE
  omega
/-- the feed leads all states to one -/
def resetB (c : CD) (ns : List Int) : Bool := (List.range c.rows.length).all fun u => decide (stE c ns u = stE c ns 0)
theorem resetB_iff {c : CD} {ns : List Int} : resetB c ns = true ↔ ∀ u, u < c.rows.length → stE c ns u = stE c ns 0 := by
  unfold resetB
  rw [List.all_eq_true]
  exact ⟨fun h u hu => of_decide_eq_true (h u (List.mem_range.mpr hu)), fun h u hu => decide_eq_true (h u (List.mem_range.mp hu))⟩
/-- no own cell is a tuple -/
def NoTup (cs : List (Addr × HO)) : Prop := ∀ c ∈ cs, ∀ xs, c.2 ≠ .tup xs
theorem NoTup.cons {cs : List (Addr × HO)} {c : Addr × HO} (h : NoTup cs) (hc : ∀ xs, c.2 ≠ .tup xs) : NoTup (c :: cs) := fun d hd => by
  rcases List.mem_cons.mp hd with rfl | hd
  · exact hc
  · exact h d hd
theorem S.know {F : Hp → Prop} {cs : List (Addr × HO)} {H : Hp} {z : Addr} {xs : List V} (s : S F cs H) (h : H z = some (.tup xs)) (nt : NoTup cs) : S (fun B => B z = some (.tup xs) ∧ F B) cs H := by
  obtain ⟨m, ⟨B, e, f, fr⟩, c, nd⟩ := s
  have hne : ∀ d ∈ cs, d.1 ≠ z := fun d hd e => by
    have := c d hd
    rw [e, h] at this
    exact nt d hd xs (Option.some.inj this).symm
  have hB : Same B (upd B z (.tup xs)) := fun a u q => by
    by_cases hz : a = z
    · subst hz
      rw [upd_same]
      have := e _ _ q
      rw [h] at this
      exact this
    · rw [upd_ne hz]
      exact q
  refine ⟨inferInstance, ⟨upd B z (.tup xs), fun a u q => ?_, ⟨upd_same, m.up _ _ hB f⟩, fun d hd => ?_⟩, c, nd⟩
  · by_cases hz : a = z
    · subst hz
      rw [upd_same] at q
      cases q
      exact h
    · rw [upd_ne hz] at q
      exact e _ _ q
  · rw [upd_ne (hne d hd)]
    exact fr d hd
def sp_ordered (K : PySem.W.Frag) : Sp := fun vs H Q _ => ∃ (F : Hp → Prop) (cs : List (Addr × HO)) (a b : Int), vs = [.int a, .int b] ∧ S F cs H ∧
  ∀ p H', S F ((p, .tup [.int (ordP (a, b)).1, .int (ordP (a, b)).2]) :: cs) H' → Q (.ref p) H'
def t_ordered (K : PySem.W.Frag) (E : XK) : TS := tSeq (tIfS (tTest (tOp rLe1 (tVar 0) (tVar 1))) (tRet (tTup (tCons (tVar 0) (tCons (tVar 1) (tNil))))) (tNext)) (tRet (tTup (tCons (tVar 1) (tCons (tVar 0) (tNil)))))
theorem pure_ordered {K : PySem.W.Frag} (κ : KF K) (vs : List V) (H : Hp) (Q : VK) (E : XK) (h : sp_ordered K vs H Q E) : t_ordered K E ⟨fun _ H' => Q .non H', Q, fun _ _ => False, fun _ _ => False⟩ (start [("first" : Str), "second"] vs) H := by
  unfold t_ordered
  obtain ⟨F, cs, a, b, rfl, s, q⟩ := h
  refine x_start (σ' := [some _, some _]) ?_ rfl
  walk_at "sx"
  refine x_if (fun h => ?_) (fun h => ?_)
  · walk_at "sx"
    refine x_newT (by simp) s fun p H2 s => q p _ ?_
    rw [show ordP (a, b) = (a, b) from if_pos h]
    exact s
  · walk_at "sx"
    refine x_newT (by simp) s fun p H2 s => q p _ ?_
    rw [show ordP (a, b) = (b, a) from if_neg h]
    exact s
/-! ### _following: slots 0 control 1 pair 2 cue -/
theorem x_entryK {K : PySem.W.Frag} {F : Hp → Prop} {cs : List (Addr × HO)} {H : Hp} {Q : VK} {E : XK} {x : Addr} {c : CD} {st cue : Int} (s : S F cs H) (hF : ∀ B, F B → Ctl K B x c) (g : c.good) (hs : 0 ≤ st ∧ st < c.rows.length) (hc : 0 ≤ cue ∧ cue < c.cues) (i : Int) (v : V)
    (hv : atI [.int (nextI c.rows st cue), .int (repI c.rows st cue)] i = some v) (q : ∀ H', S F cs H' → Q v H') : sp_Control_entry K [.ref x, .int st, .int cue] H (fun y H' => rIx1 K y (.int i) H' Q) E := by
  have mF := s.mono
  refine ⟨F, cs, x, c, st, cue, rfl, s, hF, g, hs, hc, fun z H' s => ?_⟩
  exact x_ixT s.fact.1 hv (q _ s.snd)
def sp_following (K : PySem.W.Frag) : Sp := fun vs H Q _ => ∃ (F : Hp → Prop) (cs : List (Addr × HO)) (x z : Addr) (c : CD) (p : Int × Int) (k : Nat), vs = [.ref x, .ref z, .int (k : Nat)] ∧ S F cs H ∧ (∀ B, F B → Ctl K B x c ∧ SqB false K B z [.int p.1, .int p.2]) ∧ c.good ∧ inP c p ∧ k < c.cues.toNat ∧
  ∀ y H', S (fun B => PairAt B y (nxO c p k) ∧ F B) cs H' → Q (.ref y) H'
def t_following (K : PySem.W.Frag) (E : XK) : TS := tRet (tCall (sp_ordered K) [] E0 (tCons (tOp (rIx1 K) (tMeth (He.ga K "Control") "entry" (sp_Control_entry K) [] E0 (tVar 0) (tCons (tOp (rIx1 K) (tVar 1) (tC (.int 0))) (tCons (tVar 2) (tNil)))) (tC (.int 0))) (tCons (tOp (rIx1 K) (tMeth (He.ga K "Control") "entry" (sp_Control_entry K) [] E0 (tVar 0) (tCons (tOp (rIx1 K) (tVar 1) (tC (.int 1))) (tCons (tVar 2) (tNil)))) (tC (.int 0))) (tNil))))
theorem pure_following {K : PySem.W.Frag} (κ : KF K) (vs : List V) (H : Hp) (Q : VK) (E : XK) (h : sp_following K vs H Q E) : t_following K E ⟨fun _ H' => Q .non H', Q, fun _ _ => False, fun _ _ => False⟩ (start [("control" : Str), "pair", "cue"] vs) H := by
  unfold t_following
  obtain ⟨F, cs, x, z, c, p, k, rfl, s, hF, g, hp, hk, q⟩ := h
  refine x_start (σ' := [some _, some _, some _]) ?_ rfl
  have mF := s.mono
  have gc := g.c
  walk_at "sx"
  refine x_entry (hF _ s.fact).1 ?_
  walk_at "sx"
  refine x_ixT (hF _ s.fact).2 rfl ?_
  walk_at "sx"
  refine x_entryK s (fun B f => (hF B f).1) g hp.1 (by omega) 0 _ rfl fun H5 s => ?_
  walk_at "sx"
  refine x_entry (hF _ s.fact).1 ?_
  walk_at "sx"
  refine x_ixT (hF _ s.fact).2 rfl ?_
  walk_at "sx"
  refine x_entryK s (fun B f => (hF B f).1) g hp.2 (by omega) 0 _ rfl fun H6 s => ?_
  walk_at "sx"
  refine ⟨_, _, _, _, rfl, s, fun y H7 s => ?_⟩
  exact q y _ (s.freeze fun B f e => ⟨e, f⟩)
/-! ### _merging_search: slots 0 control 1 pair 2 search 3 done 4 current 5 cue 6 following -/
def sp_merging_search (K : PySem.W.Frag) : Sp := fun vs H Q _ => ∃ (F : Hp → Prop) (cs : List (Addr × HO)) (x z0 : Addr) (c : CD) (p0 : Int × Int), vs = [.ref x, .ref z0] ∧ S F cs H ∧ (∀ B, F B → Ctl K B x c ∧ PairAt B z0 p0) ∧ c.good ∧ ltP c p0 ∧
  (∀ (t y w : Addr) (st : BSt (Int × Int)) (j : Nat) (f : List Nat) (p : Int × Int) H', st.1[j]? = some p → st.2[j]? = some f → p.1 = p.2 → runB (nxO c) p0 f = p → (∀ k ∈ f, k < c.cues.toNat) → 2 * f.length ≤ c.rows.length * (c.rows.length - 1) → S (fun B => SqB false K B t [.ref y, .ref w] ∧ SrchPK K B y st ∧ PairAt B w p ∧ F B) cs H' → Q (.ref t) H') ∧
  (∀ t y pl od qs ps H', NevS c ps → S (fun B => SqB false K B t [.ref y, .non] ∧ (SrchB K B y pl od ∧ SqB true K B pl qs ∧ PlP B qs ps) ∧ F B) cs H' → Q (.ref t) H')
def t_merging_search (K : PySem.W.Frag) (E : XK) : TS := tSeq (tAsg (tMake (He.ga K "Search") (sp_Search__init K) [] E0 (tCons (tVar 1) (tNil))) (gName 2)) (tSeq (tAsg (tC (.int 0)) (gName 3)) (tSeq (tWhile (tTest (tOp rLt1 (tVar 3) (tCB (rLen1 K) (tCons (tFld K (tVar 2) "places") (tNil))))) (tSeq (tAsg (tOp (rIx1 K) (tFld K (tVar 2) "places") (tVar 3)) (gName 4)) (tSeq (tFor (iRng1 (tCons (tFld K (tVar 0) "cues") (tNil))) (gName 5) (tSeq (tAsg (tCall (sp_following K) [] E0 (tCons (tVar 0) (tCons (tVar 4) (tCons (tVar 5) (tNil))))) (gName 6)) (tSeq (tDrop (tMeth (He.ga K "Search") "take" (sp_Search_take K) [] E0 (tVar 2) (tCons (tVar 6) (tCons (tVar 4) (tCons (tVar 5) (tNil)))))) (tIfS (tTest (tOp (rEq1 K) (tOp (rIx1 K) (tVar 6) (tC (.int 0))) (tOp (rIx1 K) (tVar 6) (tC (.int 1))))) (tRet (tTup (tCons (tVar 2) (tCons (tVar 6) (tNil))))) (tNext))))) (tAsg (tOp (rAdd1 K) (tVar 3) (tC (.int 1))) (gName 3))))) (tRet (tTup (tCons (tVar 2) (tCons (tC .non) (tNil)))))))
theorem pure_merging_search {K : PySem.W.Frag} (κ : KF K) (vs : List V) (H : Hp) (Q : VK) (E : XK) (h : sp_merging_search K vs H Q E) : t_merging_search K E ⟨fun _ H' => Q .non H', Q, fun _ _ => False, fun _ _ => False⟩ (start [("control" : Str), "pair", "search", "done", "current", "cue", "following"] vs) H := by
  unfold t_merging_search
  obtain ⟨F, cs, x, z0, c, p0, rfl, s, hF, g, h0, q1, q2⟩ := h
  refine x_start (σ' := [some _, some _, none, none, none, none, none]) ?_ rfl
  have mF := s.mono
  have gc := g.c
  have gs := g.s
  have big : c.rows.length * c.rows.length ≤ 64 * 64 := Nat.mul_le_mul gs.2 gs.2
  walk_at "sx"
  refine x_new2 s fun y dx H1 s => ⟨_, _, y, dx, z0, p0, rfl, s, fun B f => (hF B f).2, fun pl od H2 s => ⟨rfl, ?_⟩⟩
  have s := s.sub (cs' := (od, .dT [(PK p0, .non)]) :: (pl, .lst [.ref z0]) :: cs) (((List.sublist_cons_self _ _).cons₂ _).cons₂ _)
  have slen : ∀ k, (srO c p0 k).1.length ≤ c.rows.length * c.rows.length := fun k => by
    obtain ⟨I, _, _⟩ : BInv (nxO c) c.cues.toNat p0 (srO c p0 k) ∧ BDone (nxO c) c.cues.toNat (srO c p0 k) k 0 ∧ (k < (srO c p0 k).1.length → BFront (srO c p0 k) k 0) := bfs_ok _ _ _ _
    exact nodup_pair I.nd fun p hp => invO_in g h0.1 I p hp
  walk_at "sx"
  refine x_whileN (fun m σ' H' => ∃ (k : Nat) (kvs : List (List L2.Key × V)) (qs : List V) (v4 v5 v6 : Option V), σ' = [some (.ref x), some (.ref z0), some (.ref y), some (.int (k : Nat)), v4, v5, v6] ∧ m = c.rows.length * c.rows.length - k ∧ kvs.map Prod.fst = (srO c p0 k).1.map PK ∧
      (∀ p ∈ (srO c p0 k).1, ltP c p) ∧
      S (fun B => (PlP B qs (srO c p0 k).1 ∧ OrgP K B (srO c p0 k) kvs) ∧ SrchB K B y pl od ∧ F B) ((od, .dT kvs) :: (pl, .lst qs) :: cs) H') (c.rows.length * c.rows.length - 0)
    ⟨0, _, [.ref z0], _, _, _, rfl, rfl, rfl, fun p hp => by cases List.mem_singleton.mp hp; exact h0, s.imp fun B f => ⟨⟨⟨rfl, fun i p hp => ?_⟩, fun j s f e1 e2 => ?_⟩, f.1, f.2⟩⟩ ?_
  · cases i with
    | zero => cases hp; exact ⟨z0, rfl, (hF B f.2).2⟩
    | succ i => simp [srO, bfsB] at hp
  · cases j with
    | zero => cases e1; cases e2; exact ⟨_, valV_pos rfl, .inl ⟨rfl, rfl⟩⟩
    | succ j => simp [srO, bfsB] at e1
  clear s
  rintro m σ' H3 ⟨k, kvs, qs, v4, v5, v6, rfl, rfl, hk, hlt, s⟩
  obtain ⟨I, D, Fr⟩ : BInv (nxO c) c.cues.toNat p0 (srO c p0 k) ∧ BDone (nxO c) c.cues.toNat (srO c p0 k) k 0 ∧ (k < (srO c p0 k).1.length → BFront (srO c p0 k) k 0) := bfs_ok _ _ _ _
  have hlen := slen k
  have hql := s.fact.1.1.1
  walk_at "sx"
  refine x_places κ s.fact.2.1 ?_
  walk_at "sx"
  rw [hql]
  by_cases hd : k < (srO c p0 k).1.length
  · rw [if_pos (decide_eq_true (by omega))]
    refine ⟨fun σ' H' => ∃ m', m' < c.rows.length * c.rows.length - k ∧ ∃ (k : Nat) (kvs : List (List L2.Key × V)) (qs : List V) (v4 v5 v6 : Option V), σ' = [some (.ref x), some (.ref z0), some (.ref y), some (.int (k : Nat)), v4, v5, v6] ∧ m' = c.rows.length * c.rows.length - k ∧ kvs.map Prod.fst = (srO c p0 k).1.map PK ∧
      (∀ p ∈ (srO c p0 k).1, ltP c p) ∧
      S (fun B => (PlP B qs (srO c p0 k).1 ∧ OrgP K B (srO c p0 k) kvs) ∧ SrchB K B y pl od ∧ F B) ((od, .dT kvs) :: (pl, .lst qs) :: cs) H', fun _ _ h => h, ?_⟩
    have e1 : (srO c p0 k).1[k]? = some (srO c p0 k).1[k] := List.getElem?_eq_getElem hd
    generalize (srO c p0 k).1[k] = p at e1
    have pok := hlt p (mem_of_get e1)
    have hd2 : k < (srO c p0 k).2.length := by rw [I.len]; exact hd
    have e2 : (srO c p0 k).2[k]? = some (srO c p0 k).2[k] := List.getElem?_eq_getElem hd2
    generalize (srO c p0 k).2[k] = fk at e2
    have fkl := feed_len (nxO c) c.cues.toNat p0 k k fk e2
    have fkc := I.cu k fk e2
    obtain ⟨z, hz, _⟩ := s.fact.1.1.2 k p e1
    walk_at "sx"
    refine x_places κ s.fact.2.1 ?_
    walk_at "sx"
    refine x_ixC s (xs := qs) (by walk_at "m") (atI_nat hz) ?_
    walk_at "sx"
    refine x_cues κ (hF _ s.fact.2.2).1 ?_
    walk_at "sx"
    refine x_forR1 (n := c.cues.toNat) (by omega) (by omega) (fun d σ' H' => ∃ (kvs : List (List L2.Key × V)) (qs : List V) (v5 v6 : Option V), σ' = [some (.ref x), some (.ref z0), some (.ref y), some (.int (k : Nat)), some (.ref z), v5, v6] ∧ kvs.map Prod.fst = (colB (nxO c) k (srO c p0 k) d).1.map PK ∧
      (∀ p ∈ (colB (nxO c) k (srO c p0 k) d).1, ltP c p) ∧
      S (fun B => (PlP B qs (colB (nxO c) k (srO c p0 k) d).1 ∧ OrgP K B (colB (nxO c) k (srO c p0 k) d) kvs) ∧ (SrchB K B y pl od ∧ PairAt B z p) ∧ F B) ((od, .dT kvs) :: (pl, .lst qs) :: cs) H') ⟨kvs, qs, _, _, rfl, hk, hlt, s.imp fun B f => ⟨f.1, ⟨f.2.1, f.1.1.at e1 hz⟩, f.2.2⟩⟩ ?_ ?_
    · clear s hk hlt hql
      rintro d σ' H4 hdc ⟨kvs, qs, v5, v6, rfl, hk, hlt, s⟩
      obtain ⟨I2, D2, F2, r1, r2⟩ := col_ok (nxO c) c.cues.toNat p0 I D (Fr hd) hd d (by omega)
      have hlen2 := nodup_pair I2.nd fun p hp => invO_in g h0.1 I2 p hp
      have hhalf := half_pairs (n := c.rows.length) I2.nd fun p hp => ⟨(hlt p hp).1.1, (hlt p hp).1.2, (hlt p hp).2⟩
      have q3 := prefix_get r1 e1
      have q4 := prefix_get r2 e2
      have eone1 : nxO c p d ∈ (colB (nxO c) k (srO c p0 k) d).1 → colB (nxO c) k (srO c p0 k) (d + 1) = colB (nxO c) k (srO c p0 k) d := fun h => oneB_in _ q3 q4 h
      have eone2 : nxO c p d ∉ (colB (nxO c) k (srO c p0 k) d).1 → colB (nxO c) k (srO c p0 k) (d + 1) = ((colB (nxO c) k (srO c p0 k) d).1 ++ [nxO c p d], (colB (nxO c) k (srO c p0 k) d).2 ++ [fk ++ [d]]) := fun h => oneB_out _ q3 q4 h
      have hrun := I2.run k p fk q3 q4
      have hkl := (List.getElem?_eq_some_iff.mp q3).1
      generalize colB (nxO c) k (srO c p0 k) (d + 1) = w2 at eone1 eone2 ⊢
      have hI2 := I2.len
      generalize colB (nxO c) k (srO c p0 k) d = w at s hk hlt q3 q4 hlen2 hhalf hI2 eone1 eone2 hkl
      clear I2 D2 F2 r1 r2
      obtain ⟨ord, fds⟩ := w
      dsimp only at s hk hlt q3 q4 hlen2 hhalf hI2 eone1 eone2 hkl
      have hql := s.fact.1.1.1
      walk_at "sx"
      refine ⟨_, _, x, z, c, p, d, rfl, s, fun B f => ⟨(hF B f.2.2).1, f.2.1.2.sq⟩, g, pok.1, hdc, fun nz H7 s => ?_⟩
      have nin := nxO_in g pok.1 hdc
      have nle : (nxO c p d).1 ≤ (nxO c p d).2 := ordP_le _
      walk_at "sx"
      refine x_m_srch s.fact.2.2.1.1 rfl ?_
      walk_at "sx"
      refine ⟨_, cs, y, pl, od, nz, z, kvs, qs, ord, nxO c p d, _, rfl, s, fun B f => ⟨f.2.2.1.1, f.1⟩, hk, ⟨by omega, hql⟩, fun hm H8 s => ?_, fun hm tz H8 s => ?_⟩
      · have hne : ¬ (nxO c p d).1 = (nxO c p d).2 := by have := (hlt _ hm).2; omega
        walk_at "sx"
        refine x_ixT s.fact.1.sq rfl ?_
        walk_at "sx"
        refine x_ixT s.fact.1.sq rfl ?_
        walk_at "sx"
        refine x_no (decide_eq_false hne) ?_
        walk_at "sx"
        rw [eone1 hm]
        exact ⟨kvs, qs, _, _, rfl, hk, hlt, s.snd⟩
      · walk_at "sx"
        refine x_ixT s.fact.2.1.sq rfl ?_
        walk_at "sx"
        refine x_ixT s.fact.2.1.sq rfl ?_
        walk_at "sx"
        refine x_if (fun he => ?_) (fun he => ?_)
        · walk_at "sx"
          refine x_newT (by simp) s fun t H9 s => ?_
          have s := s.freezeT (K := K)
          have s := s.front (k := 1) rfl
          have s := s.freezeL (K := K)
          have mS := s.mono
          have hk2 : (kvs ++ [(PK (nxO c p d), V.ref tz)]).map Prod.fst = (ord ++ [nxO c p d]).map PK := by
            rw [List.map_append, List.map_append, hk]
            rfl
          refine q1 t y nz (ord ++ [nxO c p d], fds ++ [fk ++ [d]]) ord.length (fk ++ [d]) (nxO c p d) _ (by simp) (by show (fds ++ [fk ++ [d]])[ord.length]? = _; rw [← hI2]; simp) he ?_ ?_ ?_ (S.freeze (G := fun B => SqB false K B t [.ref y, .ref nz] ∧ SrchPK K B y (ord ++ [nxO c p d], fds ++ [fk ++ [d]]) ∧ PairAt B nz (nxO c p d) ∧ F B) s fun B f e => ⟨f.2.1, ⟨pl, od, _, _, f.2.2.2.2.2.1.1, f.1, f.2.2.2.2.1.1.snoc f.2.2.2.1, e, hk2, orgP_snoc hI2 f.2.2.2.2.1.2 hk hm f.2.2.1 f.2.2.2.2.2.1.2 q3 q4⟩, f.2.2.2.1, f.2.2.2.2.2.2⟩)
          · unfold runB at hrun ⊢
            rw [List.foldl_append, hrun]
            rfl
          · intro e he
            rcases List.mem_append.mp he with h | h
            · exact fkc e h
            · cases List.mem_singleton.mp h
              exact hdc
          · rw [List.length_append, List.length_singleton, Nat.mul_sub, Nat.mul_one]
            omega
        · walk_at "sx"
          rw [eone2 hm]
          refine ⟨_, _, _, _, rfl, ?_, fun p' hp' => ?_, s.imp fun B f => ⟨⟨f.2.2.1.1.snoc f.2.1, orgP_snoc hI2 f.2.2.1.2 hk hm f.1 f.2.2.2.1.2 q3 q4⟩, f.2.2.2⟩⟩
          · rw [List.map_append, List.map_append, hk]
            rfl
          · rcases List.mem_append.mp hp' with h | h
            · exact hlt p' h
            · cases List.mem_singleton.mp h
              exact ⟨nin, by omega⟩
    · clear s hk hlt hql
      rintro σ' H4 ⟨kvs, qs, v5, v6, rfl, hk, hlt, s⟩
      have e : colB (nxO c) k (srO c p0 k) c.cues.toNat = srO c p0 (k + 1) := by
        show _ = if k < (bfsB (nxO c) c.cues.toNat p0 k).1.length then _ else _
        rw [if_pos (show k < (bfsB (nxO c) c.cues.toNat p0 k).1.length from hd)]
        rfl
      rw [e] at s hk hlt
      walk_at "sx"
      exact ⟨_, by omega, k + 1, kvs, qs, _, _, _, rfl, rfl, hk, hlt, s.imp fun B f => ⟨f.1, f.2.1.1, f.2.2⟩⟩
  · rw [if_neg (by simpa using hd)]
    have hd := Nat.le_of_not_lt hd
    walk_at "sx"
    refine x_newT (by simp) s fun t H9 s => ?_
    have s := s.freezeT (K := K)
    have s := s.front (k := 1) rfl
    have s := s.freezeL (K := K)
    have s := s.drop1
    refine q2 t y pl od qs (srO c p0 k).1 _ ⟨fun e => ?_, hlen, fun p hp => ⟨hlt p hp, fun d hdc => ?_⟩⟩ (s.imp fun B f => ⟨f.2.1, ⟨f.2.2.2.1, f.1, f.2.2.1.1⟩, f.2.2.2.2⟩)
    · have := I.z1
      rw [e] at this
      cases this
    · obtain ⟨i, hi⟩ := List.mem_iff_getElem?.mp hp
      have hil := (List.getElem?_eq_some_iff.mp hi).1
      obtain ⟨j, g', j1, _, _⟩ := D i d p _ (.inl (by omega)) hdc hi (List.getElem?_eq_getElem (show i < (srO c p0 k).2.length by rw [I.len]; exact hil))
      exact mem_of_get j1
/-! ### reset_verdict: slots 0 control 1 feed 2 places 3 search 4 merged 5 added 6 state -/
theorem x_rgL3 {F : Hp → Prop} {cs : List (Addr × HO)} {H : Hp} {Q : VK} {n : Nat} (hn : n < 10000000) (s : S F cs H) (k : ∀ q H', S F ((q, .lst ((rng n).map V.int)) :: cs) H' → Q (.ref q) H') : RgLW 0 (n : Int) H Q := by
  obtain ⟨m, e, h⟩ := x_rgL (j := (n : Int)) (n := n) (Q := Q) rfl hn s fun q H' s => k q H' (by
    unfold rng
    rw [List.map_map]
    exact s)
  cases e
  exact h
theorem staI_app2 (rows : List (List (Int × Int))) (s : Int) (a b : List Int) : staI rows s (a ++ b) (a ++ b).length = staI rows (staI rows s a a.length) b b.length := by
  unfold staI
  rw [List.take_length, List.take_length, List.take_length, List.foldl_append]
/-- the places behind a feed, ascending -/
def PlacesS (c : CD) (f : List Nat) (ms : List Int) : Prop := ms.Pairwise (· < ·) ∧ ∀ i : Int, i ∈ ms ↔ ∃ u : Nat, u < c.rows.length ∧ staI c.rows (u : Nat) (fI f) (fI f).length = i
theorem pairwise_nodup {ms : List Int} (h : ms.Pairwise (· < ·)) : ms.Nodup := h.imp fun h e => by omega
theorem PlacesS.ok {c : CD} (g : c.good) {f : List Nat} (hf : ∀ k ∈ f, k < c.cues.toNat) {ms : List Int} (h : PlacesS c f ms) : (∀ i ∈ ms, 0 ≤ i ∧ i < c.rows.length) ∧ ms.length ≤ c.rows.length ∧ 0 < ms.length := by
  have gs := g.s
  have h1 : ∀ i ∈ ms, 0 ≤ i ∧ i < c.rows.length := fun i hi => by
    obtain ⟨u, hu, rfl⟩ := (h.2 i).mp hi
    exact staI_ok g (fI_ok hf) ⟨by omega, by omega⟩ _
  exact ⟨h1, nodup_int _ _ (pairwise_nodup h.1) h1, List.length_pos_of_mem ((h.2 _).mpr ⟨0, by omega, rfl⟩)⟩
theorem PlacesS.start {c : CD} : PlacesS c [] (rng c.rows.length) := by
  refine ⟨List.pairwise_map.mpr (List.pairwise_lt_range.imp fun h => by omega), fun i => ?_⟩
  constructor
  · intro h
    obtain ⟨u, hu, rfl⟩ := rng_in h
    exact ⟨u, hu, rfl⟩
  · rintro ⟨u, hu, rfl⟩
    exact rng_mem.mpr hu
theorem PlacesS.next {c : CD} {f w : List Nat} {ms ms2 : List Int} (h : PlacesS c f ms) (h1 : ms2.Pairwise (· < ·)) (h2 : ∀ k : Int, k ∈ ms2 ↔ ∃ m ∈ ms, staI c.rows m (fI w) (fI w).length = k) : PlacesS c (f ++ w) ms2 := by
  have e : ∀ u : Int, staI c.rows u (fI (f ++ w)) (fI (f ++ w)).length = staI c.rows (staI c.rows u (fI f) (fI f).length) (fI w) (fI w).length := fun u => by
    rw [show fI (f ++ w) = fI f ++ fI w by unfold fI; rw [List.map_append]]
    exact staI_app2 _ _ _ _
  refine ⟨h1, fun i => ?_⟩
  rw [h2]
  constructor
  · rintro ⟨m, hm, rfl⟩
    obtain ⟨u, hu, rfl⟩ := (h.2 m).mp hm
    exact ⟨u, hu, e _⟩
  · rintro ⟨u, hu, rfl⟩
    exact ⟨_, (h.2 _).mpr ⟨u, hu, rfl⟩, (e _).symm⟩
theorem places_less {g : Int → Int} {ms ms2 : List Int} (nd : ms2.Nodup) (h : ∀ k ∈ ms2, ∃ m ∈ ms, g m = k) {a b : Int} (ha : a ∈ ms) (hb : b ∈ ms) (hab : a ≠ b) (he : g a = g b) : ms2.length < ms.length := by
  have h1 := nodup_sub_len (l := ms2) (m := (ms.erase b).map g) nd fun k hk => by
    obtain ⟨m, hm, rfl⟩ := h k hk
    by_cases e : m = b
    · subst e
      exact List.mem_map.mpr ⟨a, (List.mem_erase_of_ne hab).mpr ha, he⟩
    · exact List.mem_map.mpr ⟨m, (List.mem_erase_of_ne e).mpr hm, rfl⟩
  rw [List.length_map, List.length_erase_of_mem hb] at h1
  have := List.length_pos_of_mem hb
  omega
theorem PlacesS.one {c : CD} {f : List Nat} {ms : List Int} (h : PlacesS c f ms) (hl : ms.length ≤ 1) : resetB c (fI f) = true := by
  refine resetB_iff.mpr fun u hu => ?_
  have a := (h.2 _).mpr ⟨u, hu, rfl⟩
  have b := (h.2 _).mpr ⟨0, by omega, rfl⟩
  have key : ∀ x y : Int, x ∈ ms → y ∈ ms → x = y := fun x y hx hy => by
    match ms, hl, hx, hy with
    | [z], _, hx, hy => rw [List.mem_singleton.mp hx, List.mem_singleton.mp hy]
  have e := key _ _ a b
  unfold stE
  rw [e]
theorem merged_eq {c : CD} {p0 p : Int × Int} (h0 : p0.1 ≤ p0.2) {f : List Nat} (hr : runB (nxO c) p0 f = p) (he : p.1 = p.2) : staI c.rows p0.1 (fI f) (fI f).length = staI c.rows p0.2 (fI f) (fI f).length := by
  rw [runO f p0 h0] at hr
  rw [← hr, ordP_eq] at he
  rw [fI_len, sta_run, sta_run]
  exact he
def sp_reset_verdict (K : PySem.W.Frag) : Sp := fun vs H Q _ => ∃ (F : Hp → Prop) (cs : List (Addr × HO)) (x : Addr) (c : CD), vs = [.ref x] ∧ S F cs H ∧ (∀ B, F B → Ctl K B x c) ∧ c.good ∧ c.rows.length < 64 ∧
  (∀ (t w : Addr) (f : List Nat) H', (∀ k ∈ f, k < c.cues.toNat) → resetB c (fI f) = true → 2 * f.length ≤ (c.rows.length - 1) * (c.rows.length * (c.rows.length - 1)) → S (fun B => SqB false K B t [.str "resets", .ref w] ∧ SqB false K B w ((fI f).map V.int) ∧ F B) cs H' → Q (.ref t) H') ∧
  (∀ (t w : Addr) (qs : List V) (ps : List (Int × Int)) H', NevS c ps → S (fun B => SqB false K B t [.str "never", .ref w] ∧ (SqB false K B w qs ∧ PlP B qs ps) ∧ F B) cs H' → Q (.ref t) H')
def t_reset_verdict (K : PySem.W.Frag) (E : XK) : TS := tSeq (tAsg (tTup (tNil)) (gName 1)) (tSeq (tAsg (tLstRg (tRg1 (tFld K (tVar 0) "states"))) (gName 2)) (tSeq (tWhile (tTest (tOp rGt1 (tCB (rLen1 K) (tCons (tVar 2) (tNil))) (tC (.int 1)))) (tSeq (tAsg (tCall (sp_merging_search K) [] E0 (tCons (tVar 0) (tCons (tTup (tCons (tOp (rIx1 K) (tVar 2) (tC (.int 0))) (tCons (tOp (rIx1 K) (tVar 2) (tC (.int 1))) (tNil)))) (tNil)))) (gTup K 2 (gCons (gName 3) (gCons (gName 4) (gNil))))) (tSeq (tIfS (tTest (tOp rIs1 (tVar 4) (tC .non))) (tRet (tTup (tCons (tC (.str "never")) (tCons (tCB (rTuple1 K) (tCons (tFld K (tVar 3) "places") (tNil))) (tNil))))) (tNext)) (tSeq (tAsg (tMeth (He.ga K "Search") "feed_to" (sp_Search_feed_to K) [] E0 (tVar 3) (tCons (tVar 4) (tNil))) (gName 5)) (tSeq (tAsg (tOp (rAdd1 K) (tVar 1) (tVar 5)) (gName 1)) (tAsg (tSortSc (iSq K (tVar 2)) (gName 6) (tYes) (tCall (sp_state_from K) [] E0 (tCons (tVar 0) (tCons (tVar 6) (tCons (tVar 5) (tNil))))) [6]) (gName 2))))))) (tRet (tTup (tCons (tC (.str "resets")) (tCons (tVar 1) (tNil)))))))
theorem pure_reset_verdict {K : PySem.W.Frag} (κ : KF K) (vs : List V) (H : Hp) (Q : VK) (E : XK) (h : sp_reset_verdict K vs H Q E) : t_reset_verdict K E ⟨fun _ H' => Q .non H', Q, fun _ _ => False, fun _ _ => False⟩ (start [("control" : Str), "feed", "places", "search", "merged", "added", "state"] vs) H := by
  unfold t_reset_verdict
  obtain ⟨F, cs, x, c, rfl, s, hF, g, h64, q1, q2⟩ := h
  refine x_start (σ' := [some _, none, none, none, none, none, none]) ?_ rfl
  have mF := s.mono
  have gs := g.s
  have gc := g.c
  walk_at "sx"
  refine x_newT (by simp) s fun f0 H1 s => ?_
  have s := s.freezeT (K := K)
  walk_at "sx"
  refine x_states κ (hF _ s.fact.2) ?_
  walk_at "sx"
  refine x_rgL3 (by omega) s fun p0 H2 s => ?_
  have s := s.freezeL (K := K)
  walk_at "sx"
  refine x_whileN (fun wn σ' H' => ∃ (f : List Nat) (ms : List Int) (fa pa : Addr) (v3 v4 v5 : Option V), σ' = [some (.ref x), some (.ref fa), some (.ref pa), v3, v4, v5, none] ∧ wn = ms.length ∧ (∀ k ∈ f, k < c.cues.toNat) ∧ PlacesS c f ms ∧ 2 * f.length ≤ (c.rows.length - ms.length) * (c.rows.length * (c.rows.length - 1)) ∧
    S (fun B => SqB true K B pa (ms.map V.int) ∧ SqB false K B fa ((fI f).map V.int) ∧ F B) cs H') _ ⟨[], rng c.rows.length, f0, p0, _, _, _, rfl, rfl, (fun k h => nomatch h), PlacesS.start, Nat.zero_le _, s⟩ ?_
  clear s
  rintro wn σ' H3 ⟨f, ms, fa, pa, v3, v4, v5, rfl, rfl, hf, hP, hb, s⟩
  obtain ⟨hin, hml, hm0⟩ := hP.ok g hf
  walk_at "sx"
  refine x_lenL (.inl s.fact.1) ?_
  rw [List.length_map]
  walk_at "sx"
  by_cases hd : 1 < ms.length
  · rw [if_pos (decide_eq_true (by omega))]
    refine ⟨fun σ' H' => ∃ m', m' < ms.length ∧ ∃ (f : List Nat) (ms : List Int) (fa pa : Addr) (v3 v4 v5 : Option V), σ' = [some (.ref x), some (.ref fa), some (.ref pa), v3, v4, v5, none] ∧ m' = ms.length ∧ (∀ k ∈ f, k < c.cues.toNat) ∧ PlacesS c f ms ∧ 2 * f.length ≤ (c.rows.length - ms.length) * (c.rows.length * (c.rows.length - 1)) ∧
      S (fun B => SqB true K B pa (ms.map V.int) ∧ SqB false K B fa ((fI f).map V.int) ∧ F B) cs H', fun _ _ h => h, ?_⟩
    have ea : ms[0]? = some ms[0] := List.getElem?_eq_getElem (by omega)
    have eb : ms[1]? = some ms[1] := List.getElem?_eq_getElem hd
    have hab : ms[0] < ms[1] := (List.pairwise_iff_getElem.mp hP.1) 0 1 _ _ (by omega)
    generalize ms[0] = a at ea hab
    generalize ms[1] = b at eb hab
    have ga : (ms.map V.int)[0]? = some (.int a) := by rw [List.getElem?_map, ea]; rfl
    have gb : (ms.map V.int)[1]? = some (.int b) := by rw [List.getElem?_map, eb]; rfl
    have ra := hin a (mem_of_get ea)
    have rb := hin b (mem_of_get eb)
    walk_at "sx"
    refine x_ixL s.fact.1 (atI_nat (j := 0) ga) ?_
    walk_at "sx"
    refine x_ixL s.fact.1 (atI_nat (j := 1) gb) ?_
    walk_at "sx"
    refine x_newT (by simp) s fun z0 H4 s => ?_
    have s := s.freeze (G := fun B => PairAt B z0 (a, b) ∧ SqB true K B pa (ms.map V.int) ∧ SqB false K B fa ((fI f).map V.int) ∧ F B) fun B f e => ⟨e, f⟩
    walk_at "sx"
    refine ⟨_, _, x, z0, c, (a, b), rfl, s, fun B h => ⟨hF B h.2.2.2, h.1⟩, g, ⟨⟨ra, rb⟩, hab⟩, fun t y w st j wf p H5 e1 e2 he hr hc hlen s => ?_, fun t y pl od qs ps H5 hN s => ?_⟩
    · refine x_gtup s.fact.1 rfl ?_
      walk_at "sx"
      rw [if_neg (show ¬ decide (V.ref w = V.non) = true by simp)]
      walk_at "sx"
      obtain ⟨pl', od', kvs', qs', hsr⟩ := s.fact.2.1
      refine x_m_srch hsr.1 rfl ?_
      walk_at "sx"
      have hsz : c.rows.length * (c.rows.length - 1) ≤ 64 * 64 := Nat.mul_le_mul (by omega) (by omega)
      have hsz2 : (c.rows.length - ms.length) * (c.rows.length * (c.rows.length - 1)) ≤ 64 * (64 * 64) := Nat.mul_le_mul (by omega) hsz
      refine ⟨_, cs, y, w, st, j, p, wf, rfl, s, fun B h => ⟨h.2.1, h.2.2.1⟩, e1, e2, by omega, fun ft H6 s => ?_⟩
      walk_at "sx"
      refine x_catTA s (fun B h => h.2.2.2.2.2.2.1) (fun B h => h.1) (by unfold fI; simp; omega) fun nf H7 s => ?_
      have s := s.imp (G := fun B => SqB false K B nf ((fI (f ++ wf)).map V.int) ∧ SqB false K B ft ((fI wf).map V.int) ∧ SqB true K B pa (ms.map V.int) ∧ F B) fun B h => ⟨by
        rw [show (fI (f ++ wf)).map V.int = (fI f).map V.int ++ (fI wf).map V.int by unfold fI; rw [List.map_append, List.map_append]]
        exact h.1, h.2.1, h.2.2.2.2.2.2.1, h.2.2.2.2.2.2.2.2⟩
      walk_at "sx"
      refine x_sortSc fun wd => ?_
      walk_at "sx"
      refine x_scB s.fact.2.2.1 (fun D i H => ∃ (T : Int → Bool) (n : Nat), n ≤ i ∧ i ≤ ms.length ∧ (∀ k : Int, T k = true ↔ ∃ j, j < i ∧ ∃ m, ms[j]? = some m ∧ staI c.rows m (fI wf) (fI wf).length = k) ∧
        S (fun B => SqB false K B nf ((fI (f ++ wf)).map V.int) ∧ SqB false K B ft ((fI wf).map V.int) ∧ SqB true K B pa (ms.map V.int) ∧ F B) ((D, SetO wd D T n) :: cs) H) (fun D hD => ⟨_, 0, Nat.le_refl _, Nat.zero_le _, fun k => ⟨fun z => absurd z (by decide), fun ⟨j, hj, _⟩ => absurd hj (Nat.not_lt_zero j)⟩, s.alloc hD⟩) (fun D i H h => by obtain ⟨_, _, _, _, _, s⟩ := h; exact s.fact.2.2.1) ?_ ?_
      · clear s
        rintro D i v H6 hv ⟨T, n, h1, h2, h3, s⟩
        obtain ⟨m, hm, rfl⟩ := ints_get hv
        have hi := (List.getElem?_eq_some_iff.mp hm).1
        walk_at "wipe"
        walk_at "sx"
        refine ⟨rfl, ?_⟩
        walk_at "sx"
        refine ⟨_, _, x, ft, false, c, fI wf, m, rfl, s, ⟨fun B h => ⟨hF B h.2.2.2, h.2.1⟩, g, by rw [fI_len]; omega⟩, fI_ok hc, hin m (mem_of_get hm), fun H8 s => ?_⟩
        refine ⟨_, T, n, rfl, s.at 0 rfl, by have h4 : scanBound = 4096 := rfl; omega, _, _, ?_, hi, fun k => ?_, s.set 0 rfl _⟩
        · split <;> omega
        · rw [Bool.or_eq_true, decide_eq_true_iff, h3]
          constructor
          · rintro (⟨j, hj, h⟩ | rfl)
            · exact ⟨j, by omega, h⟩
            · exact ⟨i, Nat.lt_succ_self i, m, hm, rfl⟩
          · rintro ⟨j, hj, m', hm', h⟩
            rcases Nat.lt_or_ge j i with z | z
            · exact .inl ⟨j, z, m', hm', h⟩
            · obtain rfl : j = i := by omega
              rw [hm] at hm'
              cases hm'
              exact .inr h.symm
      · clear s
        rintro D H6 ⟨T, n, h1, h2, h3, s⟩
        rw [List.length_map] at h1 h3
        refine x_sortedSet s (s.at 0 rfl) (by omega) fun ms2 p2 H7 m1 m2 m3 s => ?_
        have s := (s.sub (cs' := (p2, _) :: cs) ((List.sublist_cons_self _ _).cons₂ _)).freezeL (K := K)
        have hmem : ∀ k : Int, k ∈ ms2 ↔ ∃ m ∈ ms, staI c.rows m (fI wf) (fI wf).length = k := fun k => by
          rw [m2, h3]
          constructor
          · rintro ⟨j, _, m, hm, h⟩
            exact ⟨m, mem_of_get hm, h⟩
          · rintro ⟨m, hm, h⟩
            obtain ⟨j, hj⟩ := List.mem_iff_getElem?.mp hm
            exact ⟨j, (List.getElem?_eq_some_iff.mp hj).1, m, hj, h⟩
        have hless := places_less (g := fun m => staI c.rows m (fI wf) (fI wf).length) (pairwise_nodup m1) (fun k hk => (hmem k).mp hk) (mem_of_get ea) (mem_of_get eb) (by omega) (merged_eq (p0 := (a, b)) (by show a ≤ b; omega) hr he)
        walk_at "sx"
        refine ⟨ms2.length, hless, f ++ wf, ms2, nf, p2, _, _, _, rfl, rfl, fun k hk => ?_, hP.next m1 hmem, ?_, s.imp fun B h => ⟨h.1, h.2.1, h.2.2.2.2⟩⟩
        · rcases List.mem_append.mp hk with h | h
          · exact hf k h
          · exact hc k h
        · have h5 : (c.rows.length - ms.length + 1) * (c.rows.length * (c.rows.length - 1)) ≤ (c.rows.length - ms2.length) * (c.rows.length * (c.rows.length - 1)) := Nat.mul_le_mul_right _ (by omega)
          rw [Nat.succ_mul] at h5
          rw [List.length_append]
          omega
    · refine x_gtup s.fact.1 rfl ?_
      walk_at "sx"
      rw [if_pos (show decide (V.non = V.non) = true by decide)]
      walk_at "sx"
      refine x_places κ s.fact.2.1.1 ?_
      walk_at "sx"
      refine x_tupof s.fact.2.1.2.1 s fun tq H6 s => ?_
      have s := s.freezeT (K := K)
      walk_at "sx"
      refine x_newT (by simp) s fun tr H7 s => ?_
      have s := s.freezeT (K := K)
      exact q2 tr tq qs ps _ hN (s.imp fun B h => ⟨h.1, ⟨h.2.1, h.2.2.2.1.2.2⟩, h.2.2.2.2.2.2.2⟩)
  · rw [if_neg (by rw [decide_eq_true_iff]; omega)]
    walk_at "sx"
    refine x_newT (by simp) s fun tr H7 s => ?_
    have s := s.freezeT (K := K)
    have h5 : (c.rows.length - ms.length) * (c.rows.length * (c.rows.length - 1)) ≤ (c.rows.length - 1) * (c.rows.length * (c.rows.length - 1)) := Nat.mul_le_mul_right _ (by omega)
    exact q1 tr fa f _ hf (hP.one (by omega)) (by omega) (s.imp fun B h => ⟨h.1, h.2.2.1, h.2.2.2⟩)
/-! ### shows_reset: slots 0 control 1 feed 2 state -/
theorem x_scR1 {wd : World} {σ : L2.St} {H : Hp} {Q : VK} {g : TG} {tt : TT} {te : TE} {vs : List Nat} {n : Nat} {j : Int} (hj : j = (n : Int)) (hn : n < 2 ^ 61) (Pv : Addr → Nat → Hp → Prop) (h0 : ∀ D, H D = none → Pv D 0 (upd H D (SetO wd D (fun _ => false) 0)))
    (hs : ∀ D (i : Nat) H, i < n → Pv D i H → g (.int (i : Nat)) (wipe σ vs) H fun σ2 H2 => wipe σ2 vs = wipe σ vs ∧ tt σ2 H2 fun b H3 =>
      if b = true then te σ2 H3 fun y H4 => ∃ (k : Int) (S : Int → Bool) (n : Nat), y = .int k ∧ H4 D = some (SetO wd D S n) ∧ n + 1 < scanBound ∧ Pv D (i + 1) (upd H4 D (SetO wd D (fun j => S j || decide (j = k)) (if S k = true then n else n + 1))) else Pv D (i + 1) H3) (hd : ∀ D H, Pv D n H → Q (.ref D) H) :
    ∃ k : Int, [V.int j] = [.int k] ∧ -(2 ^ 62) ≤ k ∧ k < 2 ^ 62 ∧ ScW wd (Itr 0 k.toNat) σ H Q g tt te vs := by
  subst hj
  refine ⟨n, rfl, by omega, by omega, ?_⟩
  have e : ((n : Int)).toNat = n := Int.toNat_natCast n
  rw [e]
  refine scW_it walk_range Pv h0 (fun _ _ _ _ _ => True.intro) (fun D i x H H' hi hp y => ?_) hd
  obtain ⟨rfl, rfl⟩ := y
  have e0 : (0 : Int) + (i : Nat) = (i : Nat) := Int.zero_add _
  show g (.int (0 + (i : Nat))) (wipe σ vs) H' _
  rw [e0]
  exact hs D i H' hi hp
def sp_shows_reset (K : PySem.W.Frag) : Sp := fun vs H Q E => ∃ (F : Hp → Prop) (cs : List (Addr × HO)) (x f : Addr) (b : Bool) (c : CD) (ns : List Int), vs = [.ref x, .ref f] ∧ S F cs H ∧ CtlF K F x f b c ns ∧
  (FeedOk c.cues ns → ∀ H', S F cs H' → Q (.bl (resetB c ns)) H') ∧ ∀ i, BadAt c.cues ns i → FErr K E F cs i
def t_shows_reset (K : PySem.W.Frag) (E : XK) : TS := tSeq (tDrop (tCall (sp_check_feed K) [] E (tCons (tFld K (tVar 0) "cues") (tCons (tVar 1) (tNil))))) (tRet (tOp (rEq1 K) (tLenSc (iRng1 (tCons (tFld K (tVar 0) "states") (tNil))) (gName 2) (tYes) (tCall (sp_state_from K) [] E0 (tCons (tVar 0) (tCons (tVar 2) (tCons (tVar 1) (tNil))))) [2]) (tC (.int 1))))
theorem pure_shows_reset {K : PySem.W.Frag} (κ : KF K) (vs : List V) (H : Hp) (Q : VK) (E : XK) (h : sp_shows_reset K vs H Q E) : t_shows_reset K E ⟨fun _ H' => Q .non H', Q, fun _ _ => False, fun _ _ => False⟩ (start [("control" : Str), "feed", "state"] vs) H := by
  unfold t_shows_reset
  obtain ⟨F, cs, x, f, b, c, ns, rfl, s, hF, q, bad⟩ := h
  have hF' := hF
  obtain ⟨hF, g, hn⟩ := hF
  refine x_start (σ' := [some _, some _, none]) ?_ rfl
  have mF := s.mono
  have gs := g.s
  walk_at "sx"
  refine x_cues κ (hF _ s.fact).1 ?_
  walk_at "sx"
  refine ⟨F, cs, f, b, _, ns, rfl, s, fun B h => (hF B h).2, fun ok H1 s => ?_, bad⟩
  have q := q ok
  walk_at "sx"
  refine x_lenSc fun wd => ?_
  walk_at "sx"
  refine x_states κ (hF _ s.fact).1 ?_
  walk_at "sx"
  refine x_scR1 (n := c.rows.length) rfl (by omega) (fun D i H => ∃ (T : Int → Bool) (l : List Int), l.Nodup ∧ l.length ≤ i ∧ (∀ k : Int, T k = true ↔ k ∈ l) ∧ (∀ k : Int, k ∈ l ↔ ∃ j, j < i ∧ ((stE c ns j : Nat) : Int) = k) ∧ S F ((D, SetO wd D T l.length) :: cs) H) (fun D hD => ⟨_, [], List.nodup_nil, Nat.le_refl _, fun k => ⟨fun z => absurd z (by decide), fun z => (nomatch z)⟩, fun k => ⟨fun z => (nomatch z), fun ⟨j, hj, _⟩ => absurd hj (Nat.not_lt_zero j)⟩, s.alloc hD⟩) ?_ ?_
  · clear s
    rintro D i H6 hi ⟨T, l, nd, hl, hT, hm, s⟩
    walk_at "wipe"
    walk_at "sx"
    refine ⟨rfl, ?_⟩
    walk_at "sx"
    refine ⟨_, _, x, f, b, c, ns, (i : Nat), rfl, s, ⟨fun B h => hF B h, g, hn⟩, ok, ⟨by omega, by omega⟩, fun H8 s => ?_⟩
    rw [(stE_ok g ok hi).1]
    have same : ∀ k : Int, (∃ j, j < i + 1 ∧ ((stE c ns j : Nat) : Int) = k) ↔ k ∈ l ∨ k = ((stE c ns i : Nat) : Int) := fun k => by
      rw [hm]
      constructor
      · rintro ⟨j, hj, h⟩
        rcases Nat.lt_or_ge j i with z | z
        · exact .inl ⟨j, z, h⟩
        · obtain rfl : j = i := by omega
          exact .inr h.symm
      · rintro (⟨j, hj, h⟩ | h)
        · exact ⟨j, by omega, h⟩
        · exact ⟨i, Nat.lt_succ_self i, h.symm⟩
    refine ⟨_, T, l.length, rfl, s.at 0 rfl, by have h4 : scanBound = 4096 := rfl; omega, ?_⟩
    by_cases hin : ((stE c ns i : Nat) : Int) ∈ l
    · rw [if_pos ((hT _).mpr hin)]
      refine ⟨_, l, nd, by omega, fun k => ?_, fun k => ?_, s.set 0 rfl _⟩
      · rw [Bool.or_eq_true, decide_eq_true_iff, hT]
        exact ⟨fun h => h.elim id fun h => h ▸ hin, .inl⟩
      · rw [same]
        exact ⟨.inl, fun h => h.elim id fun h => h ▸ hin⟩
    · rw [if_neg fun z => hin ((hT _).mp z)]
      have hs : S F ((D, SetO wd D (fun j => T j || decide (j = ((stE c ns i : Nat) : Int))) (l ++ [((stE c ns i : Nat) : Int)]).length) :: cs) (upd H8 D (SetO wd D (fun j => T j || decide (j = ((stE c ns i : Nat) : Int))) (l.length + 1))) := by
        rw [List.length_append, List.length_singleton]
        exact s.set 0 rfl _
      refine ⟨_, l ++ [((stE c ns i : Nat) : Int)], ?_, by rw [List.length_append, List.length_singleton]; omega, fun k => ?_, fun k => ?_, hs⟩
      · rw [List.nodup_append]
        exact ⟨nd, by simp, fun a ha b hb => by cases List.mem_singleton.mp hb; exact fun z => hin (z ▸ ha)⟩
      · rw [Bool.or_eq_true, decide_eq_true_iff, hT, List.mem_append, List.mem_singleton]
      · rw [same, List.mem_append, List.mem_singleton]
  · clear s
    rintro D H6 ⟨T, l, nd, hl, hT, hm, s⟩
    refine x_lenSet (s.at 0 rfl) ?_
    walk_at "sx"
    have e : decide (((l.length : Nat) : Int) = 1) = resetB c ns := by
      rw [Bool.eq_iff_iff, decide_eq_true_iff, resetB_iff]
      constructor
      · intro h u hu
        have a := (hm _).mpr ⟨u, hu, rfl⟩
        have b := (hm _).mpr ⟨0, by omega, rfl⟩
        match l, h, a, b with
        | [z], _, a, b =>
          have a := List.mem_singleton.mp a
          have b := List.mem_singleton.mp b
          exact Int.ofNat.inj (a.trans b.symm)
      · intro h
        have h1 := nodup_sub_len (l := l) (m := [((stE c ns 0 : Nat) : Int)]) nd fun k hk => by
          obtain ⟨j, hj, rfl⟩ := (hm k).mp hk
          rw [h j hj]
          exact List.mem_singleton.mpr rfl
        have h2 := List.length_pos_of_mem ((hm _).mpr ⟨0, by omega, rfl⟩)
        rw [List.length_singleton] at h1
        omega
    rw [e]
    exact q _ s.drop1
/-! ### shows_never: slots 0 control 1 pairs 2 known 3 first 4 second 5 pair 6 cue -/
/-! ### papers of likeness -/
/-- a dict with pairs as keys, known by what it holds -/
def KnP (kvs : List (List L2.Key × V)) (ps : List (Int × Int)) : Prop := (∀ p, (valV kvs (PK p)).isSome = decide (p ∈ ps)) ∧ ∀ k ∈ kvs.map Prod.fst, ∃ p ∈ ps, k = PK p
theorem KnP.nil : KnP [] [] := ⟨fun p => by rw [decide_eq_false (List.not_mem_nil)]; rfl, fun k h => by cases h⟩
theorem KnP.put {kvs : List (List L2.Key × V)} {ps : List (Int × Int)} (h : KnP kvs ps) (p : Int × Int) (v : V) : KnP (putK kvs (PK p) v) (ps ++ [p]) := by
  refine ⟨fun q => ?_, fun k hk => ?_⟩
  · rw [valV_put]
    by_cases e : q = p
    · subst e
      rw [if_pos rfl, decide_eq_true (List.mem_append_right _ (List.mem_singleton.mpr rfl))]
      rfl
    · rw [if_neg fun z => e (PK_inj z), h.1 q]
      have : q ∈ ps ↔ q ∈ ps ++ [p] := by simp [e]
      by_cases m : q ∈ ps
      · rw [decide_eq_true m, decide_eq_true (this.mp m)]
      · rw [decide_eq_false m, decide_eq_false fun z => m (this.mpr z)]
  · rcases putK_key hk with rfl | hk
    · exact ⟨p, List.mem_append_right _ (List.mem_singleton.mpr rfl), rfl⟩
    · obtain ⟨q, hq, rfl⟩ := h.2 k hk
      exact ⟨q, List.mem_append_left _ hq, rfl⟩
def unPK : List L2.Key → Int × Int
  | [.inl a, .inl b] => (a, b)
  | _ => (0, 0)
theorem unPK_PK (p : Int × Int) : unPK (PK p) = p := rfl
theorem KnP.all {kvs : List (List L2.Key × V)} {ps : List (Int × Int)} (h : KnP kvs ps) (f : Int × Int → Bool) : (kvs.map fun kv => f (unPK kv.1)).all id = ps.all f := by
  rw [Bool.eq_iff_iff, List.all_eq_true, List.all_eq_true]
  constructor
  · intro H p hp
    have hs : (valV kvs (PK p)).isSome = true := by rw [h.1, decide_eq_true hp]
    have hm : PK p ∈ kvs.map Prod.fst := Classical.byContradiction fun n => by
      rw [valV_not n] at hs
      cases hs
    obtain ⟨kv, hkv, e⟩ := List.mem_map.mp hm
    have := H (f (unPK kv.1)) (List.mem_map.mpr ⟨kv, hkv, rfl⟩)
    rw [e, unPK_PK] at this
    exact this
  · intro H b hb
    obtain ⟨kv, hkv, rfl⟩ := List.mem_map.mp hb
    obtain ⟨p, hp, e⟩ := h.2 kv.1 (List.mem_map.mpr ⟨kv, hkv, rfl⟩)
    rw [e, unPK_PK]
    exact H p hp
instance {c1 c2 : CD} {p : Int × Int} : Decidable (okP c1 c2 p) := by
  unfold okP
  infer_instance
def keepsB (c1 c2 : CD) (ps : List (Int × Int)) (p : Int × Int) : Bool := (List.range c1.cues.toNat).all fun k => decide (repI c1.rows p.1 (k : Nat) = repI c2.rows p.2 (k : Nat)) && decide (nxP c1 c2 p k ∈ ps)
def goodB (c1 c2 : CD) (ps : List (Int × Int)) : Bool := decide ((c1.start, c2.start) ∈ ps) && ((ps.all fun p => decide (okP c1 c2 p)) && ps.all (keepsB c1 c2 ps))
theorem keeps_no {c1 c2 : CD} {ps : List (Int × Int)} {p : Int × Int} {k : Nat} (hk : k < c1.cues.toNat) (h : ¬ (repI c1.rows p.1 (k : Nat) = repI c2.rows p.2 (k : Nat) ∧ nxP c1 c2 p k ∈ ps)) : keepsB c1 c2 ps p = false := by
  rw [Bool.eq_false_iff]
  intro z
  have := List.all_eq_true.mp z k (List.mem_range.mpr hk)
  rw [Bool.and_eq_true, decide_eq_true_eq, decide_eq_true_eq] at this
  exact h this
theorem keeps_yes {c1 c2 : CD} {ps : List (Int × Int)} {p : Int × Int} (h : ∀ k, k < c1.cues.toNat → repI c1.rows p.1 (k : Nat) = repI c2.rows p.2 (k : Nat) ∧ nxP c1 c2 p k ∈ ps) : keepsB c1 c2 ps p = true :=
  List.all_eq_true.mpr fun k hk => by
    rw [Bool.and_eq_true, decide_eq_true_eq, decide_eq_true_eq]
    exact h k (List.mem_range.mp hk)
theorem good_no1 {c1 c2 : CD} {ps : List (Int × Int)} (h : (c1.start, c2.start) ∉ ps) : goodB c1 c2 ps = false := by
  unfold goodB
  rw [decide_eq_false h]
  rfl
theorem good_no2 {c1 c2 : CD} {ps : List (Int × Int)} {p : Int × Int} (hp : p ∈ ps) (h : ¬ okP c1 c2 p) : goodB c1 c2 ps = false := by
  rw [Bool.eq_false_iff]
  intro z
  unfold goodB at z
  rw [Bool.and_eq_true, Bool.and_eq_true] at z
  exact h (of_decide_eq_true (List.all_eq_true.mp z.2.1 p hp))
theorem good_no3 {c1 c2 : CD} {ps : List (Int × Int)} {p : Int × Int} (hp : p ∈ ps) (h : keepsB c1 c2 ps p = false) : goodB c1 c2 ps = false := by
  rw [Bool.eq_false_iff]
  intro z
  unfold goodB at z
  rw [Bool.and_eq_true, Bool.and_eq_true] at z
  have := List.all_eq_true.mp z.2.2 p hp
  rw [h] at this
  cases this
theorem good_so {c1 c2 : CD} {ps : List (Int × Int)} (h1 : (c1.start, c2.start) ∈ ps) (h2 : ∀ p ∈ ps, okP c1 c2 p) : goodB c1 c2 ps = ps.all (keepsB c1 c2 ps) := by
  unfold goodB
  rw [decide_eq_true h1, List.all_eq_true.mpr fun p hp => decide_eq_true (h2 p hp)]
  rfl
/-- the replies to a feed -/
def rlI (c : CD) (ns : List Int) : List Int := (List.range ns.length).map fun j => repS c.rows c.start ns j
theorem rlI_V (c : CD) (ns : List Int) : repL c.rows c.start ns ns.length = (rlI c ns).map V.int := by
  unfold repL rlI
  rw [List.map_map]
  rfl
instance {cues : Int} {ns : List Int} : Decidable (FeedOk cues ns) := by
  unfold FeedOk
  infer_instance
def apartB (c1 c2 : CD) (ns : List Int) : Bool := decide (FeedOk c1.cues ns) && !decide (rlI c1 ns = rlI c2 ns)
theorem apart_no {c1 c2 : CD} {ns : List Int} {n : Int} (hn : n ∈ ns) (h : ¬ (0 ≤ n ∧ n < c1.cues)) : apartB c1 c2 ns = false := by
  unfold apartB
  rw [decide_eq_false fun z : FeedOk c1.cues ns => h (z n hn)]
  rfl
theorem apart_yes {c1 c2 : CD} {ns : List Int} (h : FeedOk c1.cues ns) : apartB c1 c2 ns = !decide (rlI c1 ns = rlI c2 ns) := by
  unfold apartB
  rw [decide_eq_true h]
  rfl
def nevOk (c : CD) (ps : List (Int × Int)) (p : Int × Int) : Bool := (decide (0 ≤ p.1 ∧ p.1 < c.rows.length) && decide (0 ≤ p.2 ∧ p.2 < c.rows.length) && !decide (p.1 = p.2)) && (List.range c.cues.toNat).all fun k => decide ((nextI c.rows p.1 (k : Nat), nextI c.rows p.2 (k : Nat)) ∈ ps) || decide ((nextI c.rows p.2 (k : Nat), nextI c.rows p.1 (k : Nat)) ∈ ps)
/-- a row of pairs that shows that no feed resets -/
def neverB (c : CD) (ps : List (Int × Int)) : Bool := decide (ps ≠ []) && ps.all (nevOk c ps)
theorem nevOk_iff {c : CD} {ps : List (Int × Int)} {p : Int × Int} : nevOk c ps p = true ↔ (inP c p ∧ p.1 ≠ p.2) ∧ ∀ k, k < c.cues.toNat → (nextI c.rows p.1 (k : Nat), nextI c.rows p.2 (k : Nat)) ∈ ps ∨ (nextI c.rows p.2 (k : Nat), nextI c.rows p.1 (k : Nat)) ∈ ps := by
  unfold nevOk inP
  rw [Bool.and_eq_true, Bool.and_eq_true, Bool.and_eq_true, decide_eq_true_iff, decide_eq_true_iff, Bool.not_eq_true', decide_eq_false_iff_not, List.all_eq_true]
  refine ⟨fun ⟨h, k⟩ => ⟨h, fun d hd => ?_⟩, fun ⟨h, k⟩ => ⟨h, fun d hd => ?_⟩⟩
  · have := k d (List.mem_range.mpr hd)
    rw [Bool.or_eq_true, decide_eq_true_iff, decide_eq_true_iff] at this
    exact this
  · rw [Bool.or_eq_true, decide_eq_true_iff, decide_eq_true_iff]
    exact k d (List.mem_range.mp hd)
theorem neverB_iff {c : CD} {ps : List (Int × Int)} : neverB c ps = true ↔ ps ≠ [] ∧ ∀ p ∈ ps, nevOk c ps p = true := by
  unfold neverB
  rw [Bool.and_eq_true, decide_eq_true_iff, List.all_eq_true]
theorem ordP_mem {ps : List (Int × Int)} {p : Int × Int} : ordP p ∈ ps.map ordP ↔ p ∈ ps ∨ (p.2, p.1) ∈ ps := by
  constructor
  · intro h
    obtain ⟨q, hq, e⟩ := List.mem_map.mp h
    rcases ordP_or q with h1 | h1 <;> rcases ordP_or p with h2 | h2 <;> rw [h1, h2] at e
    · exact .inl (e ▸ hq)
    · exact .inr (e ▸ hq)
    · refine .inr ?_
      have : q = (p.2, p.1) := Prod.ext (by rw [← e]) (by rw [← e])
      exact this ▸ hq
    · refine .inl ?_
      have : q = p := Prod.ext (Prod.mk.inj e).2 (Prod.mk.inj e).1
      exact this ▸ hq
  · rintro (h | h)
    · exact List.mem_map.mpr ⟨p, h, rfl⟩
    · exact List.mem_map.mpr ⟨_, h, ordP_swap p⟩
theorem nxO_ord (c : CD) (p : Int × Int) (k : Nat) : nxO c (ordP p) k = ordP (nextI c.rows p.1 (k : Nat), nextI c.rows p.2 (k : Nat)) := by
  rcases ordP_or p with h | h
  · rw [h]; rfl
  · rw [h]
    exact ordP_swap (nextI c.rows p.1 (k : Nat), nextI c.rows p.2 (k : Nat))
/-- the same by the ordered pairs -/
theorem nevOk_ord {c : CD} {ps : List (Int × Int)} {p : Int × Int} : nevOk c ps p = true ↔ ltP c (ordP p) ∧ ∀ k, k < c.cues.toNat → nxO c (ordP p) k ∈ ps.map ordP := by
  rw [nevOk_iff]
  have e1 : (inP c p ∧ p.1 ≠ p.2) ↔ ltP c (ordP p) := by
    have hle := ordP_le p
    have heq := ordP_eq p
    constructor
    · rintro ⟨h1, h2⟩
      refine ⟨ordP_in h1, ?_⟩
      have : (ordP p).1 ≠ (ordP p).2 := fun z => h2 (heq.mp z)
      omega
    · rintro ⟨h1, h2⟩
      refine ⟨?_, fun z => by have := heq.mpr z; omega⟩
      rcases ordP_or p with e | e
      · rw [e] at h1; exact h1
      · rw [e] at h1; exact ⟨h1.2, h1.1⟩
  rw [e1]
  refine and_congr_right fun _ => forall_congr' fun k => forall_congr' fun _ => ?_
  rw [nxO_ord, ordP_mem]
theorem nevS_never {c : CD} {ps : List (Int × Int)} (h : NevS c ps) : neverB c ps = true := by
  refine neverB_iff.mpr ⟨h.1, fun p hp => nevOk_ord.mpr ?_⟩
  obtain ⟨h1, h2⟩ := h.2.2 p hp
  have e : ordP p = p := ordP_same (by have := h1.2; omega)
  rw [e]
  refine ⟨h1, fun k hk => List.mem_map.mpr ⟨_, h2 k hk, ?_⟩⟩
  exact ordP_same (ordP_le _)
/-- such pairs never merge -/
theorem never_run {c : CD} (g : c.good) {ps : List (Int × Int)} (h : neverB c ps = true) : ∀ (w : List Nat) (p : Int × Int), (∀ k ∈ w, k < c.cues.toNat) → ordP p ∈ ps.map ordP → runB (nxC c) p.1 w ≠ runB (nxC c) p.2 w
  | [], p, _, hp => by
    obtain ⟨q, hq, e⟩ := List.mem_map.mp hp
    have := (nevOk_ord.mp ((neverB_iff.mp h).2 q hq)).1.2
    rw [e] at this
    intro z
    have := (ordP_eq p).mpr z
    omega
  | k :: w, p, hw, hp => by
    obtain ⟨q, hq, e⟩ := List.mem_map.mp hp
    have h1 := (nevOk_ord.mp ((neverB_iff.mp h).2 q hq)).2 k (hw k (List.mem_cons_self ..))
    rw [e, nxO_ord] at h1
    exact never_run g h w (nextI c.rows p.1 (k : Nat), nextI c.rows p.2 (k : Nat)) (fun d hd => hw d (List.mem_cons_of_mem _ hd)) h1
theorem KnP.empty {kvs : List (List L2.Key × V)} {ps : List (Int × Int)} (h : KnP kvs ps) : 0 < kvs.length ↔ ps ≠ [] := by
  cases kvs with
  | nil =>
    refine ⟨fun z => absurd z (Nat.lt_irrefl 0), fun z => ?_⟩
    match ps, z with
    | p :: ps, _ =>
      have := h.1 p
      rw [decide_eq_true (List.mem_cons_self ..)] at this
      cases this
  | cons kv kvs =>
    refine ⟨fun _ e => ?_, fun _ => Nat.succ_pos _⟩
    obtain ⟨p, hp, _⟩ := h.2 kv.1 (List.mem_cons_self ..)
    rw [e] at hp
    cases hp
def sp_shows_never (K : PySem.W.Frag) : Sp := fun vs H Q _ => ∃ (F : Hp → Prop) (cs : List (Addr × HO)) (x pa : Addr) (b : Bool) (c : CD) (qs : List V) (ps : List (Int × Int)), vs = [.ref x, .ref pa] ∧ S F cs H ∧ (∀ B, F B → Ctl K B x c ∧ SqB b K B pa qs ∧ PlP B qs ps) ∧ c.good ∧ ps.length < 1000000 ∧ NoTup cs ∧
  ∀ H', S F cs H' → Q (.bl (neverB c ps)) H'
def t_shows_never (K : PySem.W.Frag) (E : XK) : TS := tSeq (tAsg (tDcG kindT (iSq K (tVar 1)) (gTup K 2 (gCons (gName 3) (gCons (gName 4) (gNil)))) (tYes) (tCall (sp_ordered K) [] E0 (tCons (tVar 3) (tCons (tVar 4) (tNil)))) (tC (.bl true)) [3, 4]) (gName 2)) (tSeq (tLock (tFor (iKeys (tVar 2)) (gName 5) (tSeq (tIfS (tOr (tTest (tOp rLt1 (tOp (rIx1 K) (tVar 5) (tC (.int 0))) (tC (.int 0)))) (tOr (tTest (tOp rGe1 (tOp (rIx1 K) (tVar 5) (tC (.int 1))) (tFld K (tVar 0) "states"))) (tTest (tOp (rEq1 K) (tOp (rIx1 K) (tVar 5) (tC (.int 0))) (tOp (rIx1 K) (tVar 5) (tC (.int 1))))))) (tRet (tC (.bl false))) (tNext)) (tFor (iRng1 (tCons (tFld K (tVar 0) "cues") (tNil))) (gName 6) (tIfS (tB (tDNotIn (tCall (sp_following K) [] E0 (tCons (tVar 0) (tCons (tVar 5) (tCons (tVar 6) (tNil))))) (tVar 2))) (tRet (tC (.bl false))) (tNext)))))) (tRet (tOp rGt1 (tCB rLenD1 (tCons (tVar 2) (tNil))) (tC (.int 0)))))
theorem pure_shows_never {K : PySem.W.Frag} (κ : KF K) (vs : List V) (H : Hp) (Q : VK) (E : XK) (h : sp_shows_never K vs H Q E) : t_shows_never K E ⟨fun _ H' => Q .non H', Q, fun _ _ => False, fun _ _ => False⟩ (start [("control" : Str), "pairs", "known", "first", "second", "pair", "cue"] vs) H := by
  unfold t_shows_never
  obtain ⟨F, cs, x, pa, b, c, qs, ps, rfl, s, hF, g, hpl, nt, q⟩ := h
  refine x_start (σ' := [some _, some _, none, none, none, none, none]) ?_ rfl
  have mF := s.mono
  have gc := g.c
  have hql := (hF _ s.fact).2.2.1
  walk_at "sx"
  refine x_dcT ?_
  walk_at "sx"
  refine x_dcTB (hF _ s.fact).2.1 (fun D i H => ∃ kvs : List (List L2.Key × V), kvs.length ≤ i ∧ i ≤ ps.length ∧ KnP kvs ((ps.take i).map ordP) ∧ S F ((D, .dT kvs) :: cs) H) (fun D hD => ⟨[], Nat.le_refl _, Nat.zero_le _, KnP.nil, s.alloc hD⟩) (fun D i H h => by obtain ⟨_, _, _, _, s⟩ := h; exact (hF _ s.fact).2.1) ?_ ?_
  · clear s
    rintro D i v H hx ⟨kvs, h1, h2, hk, s⟩
    have hi : i < ps.length := by rw [← hql]; exact (List.getElem?_eq_some_iff.mp hx).1
    have hn : ps[i]? = some ps[i] := List.getElem?_eq_getElem hi
    generalize ps[i] = p at hn
    obtain ⟨z, hz, hpz⟩ := (hF _ s.fact).2.2.2 i p hn
    rw [hx] at hz
    cases hz
    walk_at "wipe"
    refine x_gtup hpz.sq rfl ?_
    walk_at "sx"
    refine ⟨rfl, ?_⟩
    walk_at "sx"
    refine ⟨_, _, _, _, rfl, s, fun y H7 s => ?_⟩
    walk_at "sx"
    refine ⟨_, ⟨y, kvs, PK (ordP p), rfl, s.at 0 rfl, s.at 1 rfl, big_sz (by omega), rfl⟩, putK kvs (PK (ordP p)) (.bl true), ?_, hi, ?_, s.drop1.set 0 rfl _⟩
    · have := length_putK kvs (PK (ordP p)) (V.bl true)
      omega
    · rw [List.take_add_one, hn, List.map_append]
      exact hk.put _ _
  clear s
  rintro kn H ⟨kvs, h1, h2, hk, s⟩
  rw [hql, List.take_of_length_le (Nat.le_refl _)] at hk
  walk_at "sx"
  have hkey : ∀ {i : Nat} {k : List L2.Key} {v : V}, kvs[i]? = some (k, v) → ∃ p ∈ ps.map ordP, k = PK p := fun h => hk.2 _ (List.mem_map.mpr ⟨_, mem_of_get h, rfl⟩)
  refine x_lockT s (n := 0) rfl fun od H3 s => ?_
  simp only [List.set_cons_zero] at s
  walk_at "sx"
  refine x_forKT (s.at 0 rfl) (fun i σ' H' => ∃ v5 v6, σ' = [some (.ref x), some (.ref pa), some (.ref kn), none, none, v5, v6] ∧ (∀ (j : Nat) k v, j < i → kvs[j]? = some (k, v) → ltP c (unPK k) ∧ ∀ d, d < c.cues.toNat → nxO c (unPK k) d ∈ ps.map ordP) ∧ S F ((kn, .frz od (.dT kvs)) :: cs) H') ⟨_, _, rfl, fun j k v h => absurd h (Nat.not_lt_zero j), s⟩ (fun i σ H h => by obtain ⟨_, _, _, _, s⟩ := h; exact s.at 0 rfl) ?_ ?_
  · clear s
    rintro i k v z σ' H' hkv hz ⟨v5, v6, rfl, low, s⟩
    obtain ⟨o, hom, rfl⟩ := hkey hkv
    obtain ⟨p, hp, rfl⟩ := List.mem_map.mp hom
    have hle := ordP_le p
    have s := s.know (xs := [.int (ordP p).1, .int (ordP p).2]) hz (nt.cons fun xs e => nomatch e)
    have exit : ∀ H', ¬ (ltP c (ordP p) ∧ ∀ k, k < c.cues.toNat → nxO c (ordP p) k ∈ ps.map ordP) → S F ((kn, .frz od (.dT kvs)) :: cs) H' → H' kn = some (.frz od (.dT kvs)) ∧ Q (.bl false) (upd H' kn (.dT kvs)) := fun H' hn s => x_unlockT s (n := 0) rfl fun H4 s => by
      have e : neverB c ps = false := by
        rw [Bool.eq_false_iff]
        intro z
        exact hn (nevOk_ord.mp ((neverB_iff.mp z).2 p hp))
      rw [e] at q
      exact q _ s.drop1
    walk_at "sx"
    refine x_ixT (sq_t s.fact.1) rfl ?_
    walk_at "sx"
    refine x_if (fun a1 => ?_) (fun a1 => ?_)
    · walk_at "sx"
      exact exit _ (fun h => by have := h.1.1.1; omega) s.snd
    walk_at "sx"
    refine x_ixT (sq_t s.fact.1) rfl ?_
    walk_at "sx"
    refine x_states κ (hF _ s.fact.2).1 ?_
    walk_at "sx"
    refine x_if (fun a2 => ?_) (fun a2 => ?_)
    · walk_at "sx"
      exact exit _ (fun h => by have := h.1.1.2; omega) s.snd
    walk_at "sx"
    refine x_ixT (sq_t s.fact.1) rfl ?_
    walk_at "sx"
    refine x_ixT (sq_t s.fact.1) rfl ?_
    walk_at "sx"
    refine x_if (fun a3 => ?_) (fun a3 => ?_)
    · walk_at "sx"
      exact exit _ (fun h => by have := h.1.2; omega) s.snd
    walk_at "sx"
    have hlt : ltP c (ordP p) := ⟨⟨⟨by omega, by omega⟩, by omega, by omega⟩, by omega⟩
    refine x_cues κ (hF _ s.fact.2).1 ?_
    walk_at "sx"
    refine x_forR1 (n := c.cues.toNat) (by omega) (by omega) (fun d σ' H' => ∃ v6, σ' = [some (.ref x), some (.ref pa), some (.ref kn), none, none, some (.ref z), v6] ∧ (∀ e, e < d → nxO c (ordP p) e ∈ ps.map ordP) ∧ S (fun B => B z = some (.tup [.int (ordP p).1, .int (ordP p).2]) ∧ F B) ((kn, .frz od (.dT kvs)) :: cs) H') ⟨_, rfl, fun e h => absurd h (Nat.not_lt_zero e), s⟩ ?_ ?_
    · clear s
      rintro d σ' H4 hdc ⟨v6, rfl, lowd, s⟩
      walk_at "sx"
      refine ⟨_, _, x, z, c, ordP p, d, rfl, s, fun B f => ⟨(hF B f.2).1, sq_t f.1⟩, g, hlt.1, hdc, fun nz H7 s => ?_⟩
      walk_at "sx"
      refine x_diR (kt := PK (nxO c (ordP p) d)) (.inr ⟨od, s.at 0 rfl⟩) s.fact.1 ?_
      have s := s.snd
      rw [if_pos rfl, hk.1]
      walk_at "sx"
      refine x_ifn (fun hm => ?_) (fun hm => ?_)
      · walk_at "sx"
        exact exit _ (fun h => hm (h.2 d hdc)) s.snd
      · walk_at "sx"
        refine ⟨_, rfl, fun e he => ?_, s⟩
        rcases Nat.lt_or_ge e d with y | y
        · exact lowd e y
        · obtain rfl : e = d := by omega
          exact hm
    · clear s
      rintro σ' H4 ⟨v6, rfl, lowd, s⟩
      refine ⟨_, _, rfl, fun j k' v' hj hj' => ?_, s.snd⟩
      rcases Nat.lt_or_ge j i with y | y
      · exact low j k' v' y hj'
      · obtain rfl : j = i := by omega
        rw [hkv] at hj'
        cases hj'
        exact ⟨hlt, lowd⟩
  · clear s
    rintro σ' H' ⟨v5, v6, rfl, low, s⟩
    refine x_unlockT s (n := 0) rfl fun H4 s => ?_
    simp only [List.set_cons_zero] at s
    walk_at "sx"
    refine x_lenDT (s.at 0 rfl) ?_
    walk_at "sx"
    have hall : ∀ p ∈ ps, nevOk c ps p = true := fun p hp => by
      refine nevOk_ord.mpr ?_
      have h := hk.1 (ordP p)
      rw [decide_eq_true (List.mem_map.mpr ⟨p, hp, rfl⟩)] at h
      have hm : PK (ordP p) ∈ kvs.map Prod.fst := Classical.byContradiction fun n => by
        rw [valV_not n] at h
        cases h
      obtain ⟨kv, hkv, e⟩ := List.mem_map.mp hm
      obtain ⟨j, hj⟩ := List.mem_iff_getElem?.mp hkv
      have := low j kv.1 kv.2 (List.getElem?_eq_some_iff.mp hj).1 hj
      rw [e, unPK_PK] at this
      exact this
    have e : decide ((0 : Int) < ((kvs.length : Nat) : Int)) = neverB c ps := by
      rw [Bool.eq_iff_iff, decide_eq_true_iff, neverB_iff]
      have := hk.empty
      constructor
      · intro h
        refine ⟨fun z => ?_, hall⟩
        exact this.mp (by omega) (by rw [z]; rfl)
      · rintro ⟨h, _⟩
        have := this.mpr fun z => h (List.map_eq_nil_iff.mp z)
        omega
    rw [e]
    exact q _ s.drop1
/-! ### _law_pool: slots 0 script 1 place 2 cell -/
theorem atI_emod {ns : List Int} {i : Int} (h : ns.length ≠ 0) : ∃ c : Int, atI (ns.map V.int) (i % ((ns.map V.int).length : Int)) = some (.int c) := by
  have h0 : (0 : Int) < ((ns.map V.int).length : Int) := by rw [List.length_map]; omega
  have h1 := Int.emod_nonneg i (Int.ne_of_gt h0)
  have h2 := Int.emod_lt_of_pos i h0
  obtain ⟨k, hk⟩ : ∃ k : Nat, i % ((ns.map V.int).length : Int) = k := ⟨_, (Int.toNat_of_nonneg h1).symm⟩
  rw [hk] at h2 ⊢
  have h3 : k < ns.length := by rw [List.length_map] at h2; omega
  exact ⟨ns[k], atI_nat (by simp [h3])⟩
/-! ### the pool and the draws of a law -/
def pl (a b c d : Int) : HO := .lst [.int a, .int b, .int c, .int d]
def sp_law_pool (K : PySem.W.Frag) : Sp := fun vs H Q _ => ∃ (a : Addr) (ns : List Int) (place : Int), vs = [.ref a, .int place] ∧ SqL K H a (ns.map V.int) ∧ 0 ≤ place ∧
  ∀ p H' x y z u, H p = none → Same H H' → H' p = some (pl x y z u) → Q (.ref p) H'
def t_law_pool (K : PySem.W.Frag) (E : XK) : TS := tSeq (tIfS (tTest (tOp (rEq1 K) (tCB (rLen1 K) (tCons (tVar 0) (tNil))) (tC (.int 0)))) (tRet (tLst (tCons (tC (.int 0)) (tCons (tC (.int 0)) (tCons (tC (.int 0)) (tCons (tC (.int 0)) (tNil))))))) (tNext)) (tSeq (tAsg (tCB rAbs1 (tCons (tOp (rIx1 K) (tVar 0) (tOp rMod1 (tCB rInt1 (tCons (tVar 1) (tNil))) (tCB (rLen1 K) (tCons (tVar 0) (tNil))))) (tNil))) (gName 2)) (tSeq (tIfS (tAnd (tTest (tOp rLt1 (tVar 1) (tCB (rLen1 K) (tCons (tVar 0) (tNil))))) (tTest (tOp rGe1 (tVar 2) (tOp rPow1 (tC (.int 10)) (tC (.int 18)))))) (tRet (tLst (tCons (tC (.int 1)) (tCons (tVar 2) (tCons (tOp rMod1 (tCB rInt1 (tCons (tVar 2) (tNil))) (tC (.int 2147483647))) (tCons (tC (.int 0)) (tNil))))))) (tNext)) (tRet (tLst (tCons (tC (.int 2)) (tCons (tC (.int 0)) (tCons (tOp rMod1 (tCB rInt1 (tCons (tOp (rAdd1 K) (tVar 2) (tOp (rMul1 K) (tC (.int 7919)) (tVar 1))) (tNil))) (tC (.int 2147483647))) (tCons (tC (.int 0)) (tNil)))))))))
theorem pure_law_pool {K : PySem.W.Frag} (κ : KF K) (vs : List V) (H : Hp) (Q : VK) (E : XK) (h : sp_law_pool K vs H Q E) : t_law_pool K E ⟨fun _ H' => Q .non H', Q, fun _ _ => False, fun _ _ => False⟩ (start [("script" : Str), "place", "cell"] vs) H := by
  unfold t_law_pool
  obtain ⟨a, ns, place, rfl, hs, hp, k⟩ := h
  refine x_start (σ' := [some _, some _, none]) ?_ rfl
  have fin : ∀ x y z u : Int, ∀ p, H p = none → Q (.ref p) (upd H p (.lst [.int x, .int y, .int z, .int u])) := fun x y z u p hp => k p _ x y z u hp (same_upd hp) upd_same
  walk_at "sx"
  refine x_lenL (.inl hs) ?_
  walk_at "sx"
  refine x_if (fun h0 => ?_) (fun h0 => ?_)
  · walk_at "sx"
    exact ⟨by decide, fin _ _ _ _⟩
  · have hn : ns.length ≠ 0 := by rw [List.length_map] at h0; omega
    obtain ⟨c, hc⟩ := atI_emod (ns := ns) (i := place) hn
    walk_at "sx"
    refine x_lenL (.inl hs) ?_
    walk_at "sx"
    refine x_ixL hs hc ?_
    walk_at "sx"
    refine x_lenL (.inl hs) ?_
    walk_at "sx"
    refine x_if (fun h1 => ?_) (fun h1 => ?_)
    · walk_at "sx"
      refine x_if (fun h2 => ?_) (fun h2 => ?_)
      · walk_at "sx"
        exact ⟨by show 4 ≤ sizeLine; decide, fin _ _ _ _⟩
      · walk_at "sx"
        exact ⟨by show 4 ≤ sizeLine; decide, fin _ _ _ _⟩
    · walk_at "sx"
      exact ⟨by show 4 ≤ sizeLine; decide, fin _ _ _ _⟩
/-! ### _law_draw: slots 0 pool 1 many 2 got 3 x -/
/-- a draw: some number below many, another pool -/
def sp_law_draw (K : PySem.W.Frag) : Sp := fun vs H Q _ => ∃ (F : Hp → Prop) (cs : List (Addr × HO)) (k : Nat) (l : Addr) (a b c d many : Int), vs = [.ref l, .int many] ∧ S F cs H ∧ cs[k]? = some (l, pl a b c d) ∧ 0 < many ∧ many < 2 ^ 8000 ∧
  ∀ H' x y z u r, 0 ≤ r → r < many → S F (cs.set k (l, pl x y z u)) H' → Q (.int r) H'
def t_law_draw (K : PySem.W.Frag) (E : XK) : TS := tSeq (tAsg (tOp (rAdd1 K) (tOp (rIx1 K) (tVar 0) (tC (.int 3))) (tC (.int 1))) (gSub (tVar 0) (tC (.int 3)) rSetL)) (tSeq (tIfS (tTest (tOp (rEq1 K) (tOp (rIx1 K) (tVar 0) (tC (.int 0))) (tC (.int 0)))) (tRet (tC (.int 0))) (tNext)) (tSeq (tIfS (tAnd (tTest (tOp (rEq1 K) (tOp (rIx1 K) (tVar 0) (tC (.int 0))) (tC (.int 1)))) (tAnd (tTest (tOp rLe1 (tOp (rIx1 K) (tVar 0) (tC (.int 3))) (tC (.int 60)))) (tTest (tOp rGt1 (tOp (rIx1 K) (tVar 0) (tC (.int 1))) (tC (.int 0)))))) (tSeq (tAsg (tOp rMod1 (tCB rInt1 (tCons (tOp (rIx1 K) (tVar 0) (tC (.int 1))) (tNil))) (tVar 1)) (gName 2)) (tSeq (tAsg (tOp rDiv1 (tOp (rIx1 K) (tVar 0) (tC (.int 1))) (tVar 1)) (gSub (tVar 0) (tC (.int 1)) rSetL)) (tRet (tVar 2)))) (tNext)) (tSeq (tAsg (tOp rMod1 (tCB rInt1 (tCons (tOp (rAdd1 K) (tOp (rAdd1 K) (tOp (rIx1 K) (tVar 0) (tC (.int 2))) (tOp (rMul1 K) (tC (.int 40503)) (tOp (rIx1 K) (tVar 0) (tC (.int 3))))) (tC (.int 17))) (tNil))) (tC (.int 2147483647))) (gName 3)) (tSeq (tAsg (tOp rMod1 (tCB rInt1 (tCons (tOp (rAdd1 K) (tOp (rAdd1 K) (tOp (rMul1 K) (tVar 3) (tVar 3)) (tOp (rMul1 K) (tC (.int 69621)) (tOp (rIx1 K) (tVar 0) (tC (.int 3))))) (tC (.int 5))) (tNil))) (tC (.int 2147483629))) (gName 3)) (tSeq (tAsg (tOp rMod1 (tCB rInt1 (tCons (tOp (rAdd1 K) (tOp (rAdd1 K) (tOp (rMul1 K) (tVar 3) (tVar 3)) (tC (.int 48271))) (tOp (rIx1 K) (tVar 0) (tC (.int 2)))) (tNil))) (tC (.int 2147483647))) (gName 3)) (tRet (tOp rMod1 (tCB rInt1 (tCons (tOp rDiv1 (tVar 3) (tC (.int 8))) (tNil))) (tVar 1))))))))
theorem pure_law_draw {K : PySem.W.Frag} (κ : KF K) (vs : List V) (H : Hp) (Q : VK) (E : XK) (h : sp_law_draw K vs H Q E) : t_law_draw K E ⟨fun _ H' => Q .non H', Q, fun _ _ => False, fun _ _ => False⟩ (start [("pool" : Str), "many", "got", "x"] vs) H := by
  unfold t_law_draw
  obtain ⟨F, cs, k, l, a, b, c, d, many, rfl, s, hk, h0, hm, q⟩ := h
  refine x_start (σ' := [some _, some _, none, none]) ?_ rfl
  have s := s.front hk
  unfold pl at s
  have fin : ∀ {H' : Hp} {x y z u r : Int}, 0 ≤ r → r < many → S F ((l, .lst [.int x, .int y, .int z, .int u]) :: cs.eraseIdx k) H' → Q (.int r) H' := fun h1 h2 s' => q _ _ _ _ _ _ h1 h2 (S.back hk s')
  walk_at "sx"
  refine x_setL s (k := 0) rfl (by rfl) fun H s => ?_
  simp only [List.set_cons_succ, List.set_cons_zero] at s
  walk_at "sx"
  refine x_if (fun h1 => ?_) (fun h1 => ?_)
  · walk_at "sx"
    exact fin (Int.le_refl _) h0 s
  · walk_at "sx"
    refine x_share ?_ (fun h2 hF => ?_)
    · walk_at "sx"
      exact fin (Int.emod_nonneg _ (Int.ne_of_gt h0)) (Int.emod_lt_of_pos _ h0) s
    · walk_at "sx"
      refine x_share hF (fun h3 _ => ?_)
      walk_at "sx"
      refine x_if (fun h4 => ?_) (fun _ => hF)
      walk_at "sx"
      refine x_setL s (k := 0) rfl (by rfl) fun H s => ?_
      simp only [List.set_cons_succ, List.set_cons_zero] at s
      walk_at "sx"
      exact fin (Int.emod_nonneg _ (Int.ne_of_gt h0)) (Int.emod_lt_of_pos _ h0) s
/-! ### _law_same: slots 0 told 1 due 2 name 3 k -/
/-! ### two data are the same -/
def Fit : Nat → PyData → Prop
  | 0, .list _ => False
  | 0, .tuple _ => False
  | n + 1, .list ds => ds.length < 2 ^ 30 ∧ ∀ d ∈ ds, Fit n d
  | n + 1, .tuple ds => ds.length < 2 ^ 30 ∧ ∀ d ∈ ds, Fit n d
  | _, _ => True
def sp_law_same (n : Nat) (K : PySem.W.Frag) : Sp := fun vs H Q _ => ∃ (x y : V) (d : PyData), vs = [x, y] ∧ Dp K H x d ∧ Dp K H y d ∧ Fit n d ∧ Q (.bl true) H
theorem fit_ints {ns : List Int} {n : Nat} (h : ns.length < 1000000) : Fit (n + 1) (.list (ns.map PyData.int)) := by
  refine ⟨by rw [List.length_map]; omega, fun d hd => ?_⟩
  obtain ⟨m, _, rfl⟩ := List.mem_map.mp hd
  cases n <;> trivial
def t_law_same (K : PySem.W.Frag) (sp : Sp) (E : XK) : TS := tSeq (tIfS (tTest (tOp rIs1 (tVar 1) (tC .non))) (tRet (tOp rIs1 (tVar 0) (tC .non))) (tNext)) (tSeq (tIfS (tTest (tOp rIs1 (tVar 1) (tC (.bl true)))) (tRet (tOp rIs1 (tVar 0) (tC (.bl true)))) (tNext)) (tSeq (tIfS (tTest (tOp rIs1 (tVar 1) (tC (.bl false)))) (tRet (tOp rIs1 (tVar 0) (tC (.bl false)))) (tNext)) (tSeq (tIfS (tTr K (tCB (rIsi1 K) (tCons (tVar 1) (tCons (tC (.ty "int")) (tNil))))) (tRet (tAndV (tCB (rIsi1 K) (tCons (tVar 0) (tCons (tC (.ty "int")) (tNil)))) (tAndV (tNotV (tCB (rIsi1 K) (tCons (tVar 0) (tCons (tC (.ty "bool")) (tNil))))) (tOp (rEq1 K) (tVar 0) (tVar 1))))) (tNext)) (tSeq (tIfS (tTr K (tCB (rIsi1 K) (tCons (tVar 1) (tCons (tC (.ty "str")) (tNil))))) (tRet (tAndV (tCB (rIsi1 K) (tCons (tVar 0) (tCons (tC (.ty "str")) (tNil)))) (tOp (rEq1 K) (tVar 0) (tVar 1)))) (tNext)) (tSeq (tIfS (tTr K (tCB (rIsi1 K) (tCons (tVar 1) (tCons (tC (.ty "dict")) (tNil))))) (tSeq (tIfS (tOr (tNot (tTr K (tCB (rIsi1 K) (tCons (tVar 0) (tCons (tC (.ty "dict")) (tNil)))))) (tTest (tOp (rNe1 K) (tCB (rLen1 K) (tCons (tVar 0) (tNil))) (tCB (rLen1 K) (tCons (tVar 1) (tNil)))))) (tRet (tC (.bl false))) (tNext)) (tSeq (tFor (iSq K (tVar 1)) (gName 2) (tIfS (tOr (tTest (tOp (rNotIn1 K) (tVar 2) (tVar 0))) (tNot (tTr K (tCall sp [] E0 (tCons (tOp (rIx1 K) (tVar 0) (tVar 2)) (tCons (tOp (rIx1 K) (tVar 1) (tVar 2)) (tNil))))))) (tRet (tC (.bl false))) (tNext))) (tRet (tC (.bl true))))) (tNext)) (tSeq (tIfS (tAnd (tTr K (tCB (rIsi1 K) (tCons (tVar 1) (tCons (tC (.ty "list")) (tNil))))) (tNot (tTr K (tCB (rIsi1 K) (tCons (tVar 0) (tCons (tC (.ty "list")) (tNil))))))) (tRet (tC (.bl false))) (tNext)) (tSeq (tIfS (tAnd (tTr K (tCB (rIsi1 K) (tCons (tVar 1) (tCons (tC (.ty "tuple")) (tNil))))) (tNot (tTr K (tCB (rIsi1 K) (tCons (tVar 0) (tCons (tC (.ty "tuple")) (tNil))))))) (tRet (tC (.bl false))) (tNext)) (tSeq (tIfS (tTest (tOp (rNe1 K) (tCB (rLen1 K) (tCons (tVar 0) (tNil))) (tCB (rLen1 K) (tCons (tVar 1) (tNil))))) (tRet (tC (.bl false))) (tNext)) (tSeq (tFor (iRng1 (tCons (tCB (rLen1 K) (tCons (tVar 1) (tNil))) (tNil))) (gName 3) (tIfS (tNot (tTr K (tCall sp [] E0 (tCons (tOp (rIx1 K) (tVar 0) (tVar 3)) (tCons (tOp (rIx1 K) (tVar 1) (tVar 3)) (tNil)))))) (tRet (tC (.bl false))) (tNext))) (tRet (tC (.bl true))))))))))))
/-- the end of it: two lists or two tuples -/
theorem same_seq {K : PySem.W.Frag} {n : Nat} {sp : Sp} {b : Bool} {p q : Addr} {xs ys : List V} {ds : List PyData} {H : Hp} {Q : VK} {nx bk ct : L2.St → Hp → Prop} (hsp : ∀ vs H Q E, sp_law_same n K vs H Q E → sp vs H Q E)
    (h1 : SqB b K H p xs) (h2 : SqB b K H q ys) (a1 : DpAll K H xs ds) (a2 : DpAll K H ys ds) (hl : ds.length < 2 ^ 30) (hf : ∀ d ∈ ds, Fit n d) (fin : Q (.bl true) H) :
    tSeq (tIfS (tTest (tOp (rNe1 K) (tCB (rLen1 K) (tCons (tVar 0) (tNil))) (tCB (rLen1 K) (tCons (tVar 1) (tNil))))) (tRet (tC (.bl false))) (tNext)) (tSeq (tFor (iRng1 (tCons (tCB (rLen1 K) (tCons (tVar 1) (tNil))) (tNil))) (gName 3) (tIfS (tNot (tTr K (tCall sp [] E0 (tCons (tOp (rIx1 K) (tVar 0) (tVar 3)) (tCons (tOp (rIx1 K) (tVar 1) (tVar 3)) (tNil)))))) (tRet (tC (.bl false))) (tNext))) (tRet (tC (.bl true)))) ⟨nx, Q, bk, ct⟩ [some (.ref p), some (.ref q), none, none] H := by
  have l1 := dpAll_len a1
  have l2 := dpAll_len a2
  walk_at "sx"
  refine x_lenL h1.or ?_
  walk_at "sx"
  refine x_lenL h2.or ?_
  walk_at "sx"
  refine x_ifn (fun h => absurd (by rw [l1, l2]) h) (fun _ => ?_)
  walk_at "sx"
  refine x_lenL h2.or ?_
  walk_at "sx"
  refine x_forR1 (n := ds.length) (by rw [l2]) (by omega) (fun i σ' H' => H' = H ∧ ∃ v, σ' = [some (.ref p), some (.ref q), none, v]) ⟨rfl, _, rfl⟩ ?_ ?_
  · rintro i σ' H' hi ⟨rfl, v, rfl⟩
    walk_at "sx"
    obtain ⟨x, hx, dx⟩ := dpAll_get a1 (List.getElem?_eq_getElem hi)
    obtain ⟨y, hy, dy⟩ := dpAll_get a2 (List.getElem?_eq_getElem hi)
    have ix : ∀ {p : Addr} {xs : List V} {z : V} {Q : VK}, SqB b K H' p xs → xs[i]? = some z → Q z H' → rIx1 K (.ref p) (.int (i : Nat)) H' Q := fun h e q => by
      cases b
      · exact x_ixT h (atI_nat e) q
      · exact x_ixL h (atI_nat e) q
    refine ix h1 hx ?_
    walk_at "sx"
    refine ix h2 hy ?_
    walk_at "sx"
    refine hsp _ _ _ _ ⟨x, y, _, rfl, dx, dy, hf _ (List.getElem_mem hi), ?_⟩
    walk_at "sx"
    exact ⟨rfl, _, rfl⟩
  · rintro σ' H' ⟨rfl, v, rfl⟩
    walk_at "sx"
    exact fin
theorem pure_law_same {K : PySem.W.Frag} {n : Nat} {sp : Sp} (hsp : ∀ vs H Q E m, n = m + 1 → sp_law_same m K vs H Q E → sp vs H Q E) (vs : List V) (H : Hp) (Q : VK) (E : XK) (h : sp_law_same n K vs H Q E) :
    t_law_same K sp E ⟨fun _ H' => Q .non H', Q, fun _ _ => False, fun _ _ => False⟩ (start ["told", "due", "name", "k"] vs) H := by
  obtain ⟨x, y, d, rfl, dx, dy, hf, q⟩ := h
  unfold t_law_same
  refine x_start (σ' := [some _, some _, none, none]) ?_ rfl
  have tx := dp_ty dx
  have ty := dp_ty dy
  cases dx with
  | non =>
    cases dy
    walk_at "sx"
    exact x_if (fun _ => by walk_at "sx"; exact q) (fun h => absurd rfl h)
  | bl b =>
    cases dy
    walk_at "sx"
    refine x_if (fun h => nomatch h) (fun _ => ?_)
    walk_at "sx"
    refine x_if (fun h => ?_) (fun h => ?_)
    · cases h
      walk_at "sx"
      exact q
    · walk_at "sx"
      refine x_if (fun h => ?_) (fun h' => ?_)
      · cases h
        walk_at "sx"
        exact q
      · cases b
        · exact absurd rfl h'
        · exact absurd rfl h
  | int i =>
    cases dy
    walk_at "sx"
    refine x_if (fun h => nomatch h) (fun _ => ?_)
    walk_at "sx"
    refine x_if (fun h => nomatch h) (fun _ => ?_)
    walk_at "sx"
    refine x_if (fun h => nomatch h) (fun _ => ?_)
    walk_at "sx"
    refine x_isi (T := "int") ty (r := true) (by decide +kernel) ?_
    walk_at "sx"
    refine x_isi (T := "int") tx (r := true) (by decide +kernel) ?_
    walk_at "sx"
    refine x_isi (T := "int") tx (r := false) (by decide +kernel) ?_
    walk_at "sx"
    rw [decide_eq_true rfl]
    exact q
  | str z =>
    cases dy
    walk_at "sx"
    refine x_if (fun h => nomatch h) (fun _ => ?_)
    walk_at "sx"
    refine x_if (fun h => nomatch h) (fun _ => ?_)
    walk_at "sx"
    refine x_if (fun h => nomatch h) (fun _ => ?_)
    walk_at "sx"
    refine x_isi (T := "str") ty (r := false) (by decide +kernel) ?_
    walk_at "sx"
    refine x_isi (T := "str") ty (r := true) (by decide +kernel) ?_
    walk_at "sx"
    refine x_isi (T := "str") tx (r := true) (by decide +kernel) ?_
    walk_at "sx"
    refine x_eqS rfl ?_
    rw [decide_eq_true rfl]
    exact q
  | lst h1 k1 =>
    cases dy with | lst h2 k2 => ?_
    cases n with
    | zero => exact hf.elim
    | succ n =>
    walk_at "sx"
    refine x_if (fun h => nomatch h) (fun _ => ?_)
    walk_at "sx"
    refine x_if (fun h => nomatch h) (fun _ => ?_)
    walk_at "sx"
    refine x_if (fun h => nomatch h) (fun _ => ?_)
    walk_at "sx"
    refine x_isi (T := "list") ty (r := false) (by decide +kernel) ?_
    walk_at "sx"
    refine x_isi (T := "list") ty (r := false) (by decide +kernel) ?_
    walk_at "sx"
    refine x_isi (T := "list") ty (r := false) (by decide +kernel) ?_
    walk_at "sx"
    refine x_isi (T := "list") ty (r := true) (by decide +kernel) ?_
    walk_at "sx"
    refine x_isi (T := "list") tx (r := true) (by decide +kernel) ?_
    walk_at "sx"
    refine x_isi (T := "list") ty (r := false) (by decide +kernel) ?_
    refine x_trB (iteF (iteF (x_next ?_)))
    exact same_seq (b := true) (fun vs H Q E z => hsp vs H Q E n rfl z) h1 h2 k1 k2 hf.1 hf.2 q
  | tup h1 k1 =>
    cases dy with | tup h2 k2 => ?_
    cases n with
    | zero => exact hf.elim
    | succ n =>
    walk_at "sx"
    refine x_if (fun h => nomatch h) (fun _ => ?_)
    walk_at "sx"
    refine x_if (fun h => nomatch h) (fun _ => ?_)
    walk_at "sx"
    refine x_if (fun h => nomatch h) (fun _ => ?_)
    walk_at "sx"
    refine x_isi (T := "tuple") ty (r := false) (by decide +kernel) ?_
    walk_at "sx"
    refine x_isi (T := "tuple") ty (r := false) (by decide +kernel) ?_
    walk_at "sx"
    refine x_isi (T := "tuple") ty (r := false) (by decide +kernel) ?_
    walk_at "sx"
    refine x_isi (T := "tuple") ty (r := false) (by decide +kernel) ?_
    walk_at "sx"
    refine x_isi (T := "tuple") ty (r := true) (by decide +kernel) ?_
    walk_at "sx"
    refine x_isi (T := "tuple") tx (r := true) (by decide +kernel) ?_
    refine x_trB (x_ntT (x_next ?_))
    exact same_seq (b := false) (fun vs H Q E z => hsp vs H Q E n rfl z) h1 h2 k1 k2 hf.1 hf.2 q
/-! ### _law_is_feed: slots 0 told 1 cues 2 c -/
def sp_law_is_feed (K : PySem.W.Frag) : Sp := fun vs H Q _ => ∃ (F : Hp → Prop) (cs : List (Addr × HO)) (t : Addr) (cues : Int) (ns : List Int), vs = [.ref t, .int cues] ∧ S F cs H ∧ (∀ B, F B → SqB false K B t (ns.map V.int)) ∧ FeedOk cues ns ∧ ns.length < 1000000 ∧ ∀ H', S F cs H' → Q (.bl true) H'
def t_law_is_feed (K : PySem.W.Frag) (E : XK) : TS := tSeq (tIfS (tNot (tTr K (tCB (rIsi1 K) (tCons (tVar 0) (tCons (tC (.ty "tuple")) (tNil)))))) (tRet (tC (.bl false))) (tNext)) (tSeq (tFor (iSq K (tVar 0)) (gName 2) (tIfS (tOr (tNot (tTr K (tCB (rIsi1 K) (tCons (tVar 2) (tCons (tC (.ty "int")) (tNil)))))) (tOr (tTr K (tCB (rIsi1 K) (tCons (tVar 2) (tCons (tC (.ty "bool")) (tNil))))) (tOr (tTest (tOp rLt1 (tVar 2) (tC (.int 0)))) (tTest (tOp rGe1 (tVar 2) (tVar 1)))))) (tRet (tC (.bl false))) (tNext))) (tRet (tC (.bl true))))
theorem pure_law_is_feed {K : PySem.W.Frag} (κ : KF K) (vs : List V) (H : Hp) (Q : VK) (E : XK) (h : sp_law_is_feed K vs H Q E) : t_law_is_feed K E ⟨fun _ H' => Q .non H', Q, fun _ _ => False, fun _ _ => False⟩ (start [("told" : Str), "cues", "c"] vs) H := by
  unfold t_law_is_feed
  obtain ⟨F, cs, t, cues, ns, rfl, s, hF, ok, hn, q⟩ := h
  refine x_start (σ' := [some _, some _, none]) ?_ rfl
  have mF := s.mono
  walk_at "sx"
  refine x_isi (T := "tuple") (tyx_t (hF _ s.fact)) (r := true) (by decide +kernel) ?_
  walk_at "sx"
  refine x_forB (hF _ s.fact) (fun i σ' H' => ∃ v, σ' = [some (.ref t), some (.int cues), v] ∧ S F cs H') ⟨_, rfl, s⟩ (fun i σ H h => by obtain ⟨_, _, s⟩ := h; exact hF _ s.fact) ?_ ?_
  · rintro i y σ' H' hy ⟨v, rfl, s⟩
    obtain ⟨n, hz, rfl⟩ := ints_get hy
    obtain ⟨o1, o2⟩ := ok n (mem_of_get hz)
    walk_at "sx"
    have ty : TyX K H' (.int n) (.type "int") := dp_ty (.int n)
    refine x_isi (T := "int") ty (r := true) (by decide +kernel) ?_
    walk_at "sx"
    refine x_isi (T := "int") ty (r := false) (by decide +kernel) ?_
    walk_at "sx"
    refine x_no (decide_eq_false (by omega)) ?_
    walk_at "sx"
    refine x_no (decide_eq_false (by omega)) ?_
    walk_at "sx"
    exact ⟨_, rfl, s⟩
  · rintro σ' H' ⟨v, rfl, s⟩
    walk_at "sx"
    exact q _ s
/-! ### _law_asked: slots 0 control 1 feed 2 got 3 e 4 kinds -/
theorem fit_told_b {b : Bool} : Fit 4 (.tuple [.str "told", .bool b]) := ⟨by simp, fun d hd => by
  simp only [List.mem_cons, List.not_mem_nil, or_false] at hd
  rcases hd with rfl | rfl <;> trivial⟩
def sp_law_asked (K : PySem.W.Frag) : Sp := fun vs H Q _ => ∃ (F : Hp → Prop) (cs : List (Addr × HO)) (x f : Addr) (b : Bool) (c : CD) (ns : List Int), vs = [.ref x, .ref f] ∧ S F cs H ∧ CtlF K F x f b c ns ∧
  (FeedOk c.cues ns → ∀ p H', S F ((p, .tup [.str "told", .bl (resetB c ns)]) :: cs) H' → Q (.ref p) H') ∧
  ∀ i, BadAt c.cues ns i → ∀ p H', S F ((p, .tup [.str "feed", .int (i : Nat)]) :: cs) H' → Q (.ref p) H'
def t_law_asked (K : PySem.W.Frag) (E : XK) : TS := tSeq (tAsg (tTup (tCons (tC (.str "none")) (tCons (tC (.int 0)) (tNil)))) (gName 2)) (tSeq (tTry K (.ref (He.ga K "FabricError")) 3 (fun W => tAsg (tTup (tCons (tC (.str "told")) (tCons (tCallSD (sp_shows_reset K) [] (WE W) (tCons (tVar 0) (tCons (tVar 1) (tNil)))) (tNil)))) (gName 2)) (fun a cls d => tSeq (tAsg (tTup (tCons (tC (.str "other")) (tCons (tC (.int 0)) (tNil)))) (gName 2)) (tSeq (tAsg (tOp (rAdd1 K) (tOp (rAdd1 K) (tCB rInt1 (tCons (tCB (rIsED K cls d a) (tCons (tVar 3) (tCons (tC (.ref (He.ga K "SizeError"))) (tNil)))) (tNil))) (tCB rInt1 (tCons (tCB (rIsED K cls d a) (tCons (tVar 3) (tCons (tC (.ref (He.ga K "ControlError"))) (tNil)))) (tNil)))) (tCB rInt1 (tCons (tCB (rIsED K cls d a) (tCons (tVar 3) (tCons (tC (.ref (He.ga K "FeedError"))) (tNil)))) (tNil)))) (gName 4)) (tSeq (tAsg (tOp (rAdd1 K) (tOp (rAdd1 K) (tVar 4) (tCB rInt1 (tCons (tCB (rIsED K cls d a) (tCons (tVar 3) (tCons (tC (.ref (He.ga K "ExchangeError"))) (tNil)))) (tNil)))) (tCB rInt1 (tCons (tCB (rIsED K cls d a) (tCons (tVar 3) (tCons (tTup (tCons (tC (.ref (He.ga K "BitsError"))) (tCons (tC (.ref (He.ga K "MachineError"))) (tCons (tC (.ref (He.ga K "ProgramError"))) (tNil))))) (tNil)))) (tNil)))) (gName 4)) (tSeq (tAsg (tOp (rAdd1 K) (tVar 4) (tCB rInt1 (tCons (tCB (rIsED K cls d a) (tCons (tVar 3) (tCons (tTup (tCons (tC (.ref (He.ga K "CircuitError"))) (tCons (tC (.ref (He.ga K "NetlistError"))) (tCons (tC (.ref (He.ga K "FanoutError"))) (tCons (tC (.ref (He.ga K "ColouringError"))) (tCons (tC (.ref (He.ga K "EdgeError"))) (tNil))))))) (tNil)))) (tNil)))) (gName 4)) (tSeq (tAsg (tOp (rAdd1 K) (tVar 4) (tCB rInt1 (tCons (tCB (rIsED K cls d a) (tCons (tVar 3) (tCons (tTup (tCons (tC (.ref (He.ga K "PathError"))) (tCons (tC (.ref (He.ga K "TapeError"))) (tCons (tC (.ref (He.ga K "StoreError"))) (tCons (tC (.ref (He.ga K "HistoryError"))) (tCons (tC (.ref (He.ga K "CommandError"))) (tNil))))))) (tNil)))) (tNil)))) (gName 4)) (C8.tCut (tIfS (tAnd (tTest (tOp (rEq1 K) (tVar 4) (tC (.int 1)))) (tAnd (tTr K (tCB (rIsED K cls d a) (tCons (tVar 3) (tCons (tC (.ty "ValueError")) (tNil))))) (tTr K (tCB (rIsED K cls d a) (tCons (tVar 3) (tCons (tC (.ref (He.ga K "SizeError"))) (tNil))))))) (tAsg (tTup (tCons (tC (.str "size")) (tCons (tNevE) (tNil)))) (gName 2)) (tNext)) (C8.tCut (tIfS (tAnd (tTest (tOp (rEq1 K) (tVar 4) (tC (.int 1)))) (tAnd (tTr K (tCB (rIsED K cls d a) (tCons (tVar 3) (tCons (tC (.ty "ValueError")) (tNil))))) (tTr K (tCB (rIsED K cls d a) (tCons (tVar 3) (tCons (tC (.ref (He.ga K "ControlError"))) (tNil))))))) (tAsg (tTup (tCons (tC (.str "control")) (tCons (tNevE) (tNil)))) (gName 2)) (tNext)) (C8.tCut (tIfS (tAnd (tTest (tOp (rEq1 K) (tVar 4) (tC (.int 1)))) (tAnd (tTr K (tCB (rIsED K cls d a) (tCons (tVar 3) (tCons (tC (.ty "ValueError")) (tNil))))) (tTr K (tCB (rIsED K cls d a) (tCons (tVar 3) (tCons (tC (.ref (He.ga K "FeedError"))) (tNil))))))) (tAsg (tTup (tCons (tC (.str "feed")) (tCons (tXf a cls d (He.ga K "FeedError") "index" (tVar 3)) (tNil)))) (gName 2)) (tNext)) (tIfS (tAnd (tTest (tOp (rEq1 K) (tVar 4) (tC (.int 1)))) (tAnd (tTr K (tCB (rIsED K cls d a) (tCons (tVar 3) (tCons (tC (.ty "ValueError")) (tNil))))) (tTr K (tCB (rIsED K cls d a) (tCons (tVar 3) (tCons (tC (.ref (He.ga K "ExchangeError"))) (tNil))))))) (tAsg (tTup (tCons (tC (.str "exchange")) (tCons (tNevE) (tNil)))) (gName 2)) (tNext)))))))))) (fun _ _ _ _ => False)) (tRet (tVar 2)))
theorem pure_law_asked {K : PySem.W.Frag} (κ : KF K) (vs : List V) (H : Hp) (Q : VK) (E : XK) (h : sp_law_asked K vs H Q E) : t_law_asked K E ⟨fun _ H' => Q .non H', Q, fun _ _ => False, fun _ _ => False⟩ (start [("control" : Str), "feed", "got", "e", "kinds"] vs) H := by
  unfold t_law_asked
  obtain ⟨F, cs, x, f, b, c, ns, rfl, s, hF, q0, bad⟩ := h
  refine x_start (σ' := [some _, some _, none, none, none]) ?_ rfl
  have mF := s.mono
  walk_at "sx"
  refine x_newT (by simp) s fun g0 H1 s => ?_
  have s := s.drop1
  walk_at "sx"
  refine ⟨F, cs, x, f, b, c, ns, rfl, s, hF, fun ok H2 s => ?_, fun i hb H2 dd s => ?_⟩
  · walk_at "sx"
    refine x_newT (by simp) s fun t3 H3 s => ?_
    walk_at "sx"
    exact q0 ok t3 _ s
  · have ec := (ker_FeedError κ).1
    refine was_true (kexm_FeedError_FabricError κ) fun a ha => ?_
    dsimp only [List.set_cons_succ, List.set_cons_zero]
    walk_at "sx"
    refine x_newT (by simp) s fun g H3 s => ?_
    have s := s.drop1
    walk_at "sx"
    refine x_isE (s.at 0 rfl) ec (fun u h => h) (kis_FeedError_SizeError κ) ?_
    walk_at "sx"
    refine x_isE (s.at 0 rfl) ec (fun u h => h) (kis_FeedError_ControlError κ) ?_
    walk_at "sx"
    refine x_isE (s.at 0 rfl) ec (fun u h => h) (kis_FeedError_FeedError κ) ?_
    walk_at "sx"
    refine x_isE (s.at 0 rfl) ec (fun u h => h) (kis_FeedError_ExchangeError κ) ?_
    walk_at "sx"
    refine x_newT (by simp) s fun pt H4 s => ?_
    walk_at "sx"
    refine x_isET (Cs := [He.ga K "BitsError", He.ga K "MachineError", He.ga K "ProgramError"]) (s.at 1 rfl) ec (sq_t (s.at 0 rfl)) (kis_FeedError_BitsError_MachineError_ProgramError κ) ?_
    have s := s.drop1
    walk_at "sx"
    refine x_newT (by simp) s fun pt H4 s => ?_
    walk_at "sx"
    refine x_isET (Cs := [He.ga K "CircuitError", He.ga K "NetlistError", He.ga K "FanoutError", He.ga K "ColouringError", He.ga K "EdgeError"]) (s.at 1 rfl) ec (sq_t (s.at 0 rfl)) (kis_FeedError_CircuitError_NetlistError_FanoutError_ColouringError_EdgeError κ) ?_
    have s := s.drop1
    walk_at "sx"
    refine x_newT (by simp) s fun pt H4 s => ?_
    walk_at "sx"
    refine x_isET (Cs := [He.ga K "PathError", He.ga K "TapeError", He.ga K "StoreError", He.ga K "HistoryError", He.ga K "CommandError"]) (s.at 1 rfl) ec (sq_t (s.at 0 rfl)) (kis_FeedError_PathError_TapeError_StoreError_HistoryError_CommandError κ) ?_
    have s := s.drop1
    walk_at "sx"
    refine x_cut (fun σ' H' => ∃ g, σ' = [some (.ref x), some (.ref f), some (.ref g), some (.ref a), some (.int 1)] ∧ S F ((dd, .xd [("index", .int (i : Nat))]) :: cs) H') ?_ ?_
    · walk_at "sx"
      refine x_if (fun _ => ?_) (fun h => absurd (by decide) h)
      walk_at "sx"
      refine x_isE (s.at 0 rfl) ec (fun u h => h) (kis_FeedError_ValueError κ) ?_
      walk_at "sx"
      refine x_isE (s.at 0 rfl) ec (fun u h => h) (kis_FeedError_SizeError κ) ?_
      walk_at "sx"
      exact ⟨g, rfl, s⟩
    rintro σ' H' ⟨g, rfl, s⟩
    refine x_cut (fun σ' H' => ∃ g, σ' = [some (.ref x), some (.ref f), some (.ref g), some (.ref a), some (.int 1)] ∧ S F ((dd, .xd [("index", .int (i : Nat))]) :: cs) H') ?_ ?_
    · walk_at "sx"
      refine x_if (fun _ => ?_) (fun h => absurd (by decide) h)
      walk_at "sx"
      refine x_isE (s.at 0 rfl) ec (fun u h => h) (kis_FeedError_ValueError κ) ?_
      walk_at "sx"
      refine x_isE (s.at 0 rfl) ec (fun u h => h) (kis_FeedError_ControlError κ) ?_
      walk_at "sx"
      exact ⟨g, rfl, s⟩
    rintro σ' H' ⟨g, rfl, s⟩
    refine x_cut (fun σ' H' => ∃ g, σ' = [some (.ref x), some (.ref f), some (.ref g), some (.ref a), some (.int 1)] ∧ S F ((g, .tup [.str "feed", .int (i : Nat)]) :: (dd, .xd [("index", .int (i : Nat))]) :: cs) H') ?_ ?_
    · walk_at "sx"
      refine x_if (fun _ => ?_) (fun h => absurd (by decide) h)
      walk_at "sx"
      refine x_isE (s.at 0 rfl) ec (fun u h => h) (kis_FeedError_ValueError κ) ?_
      walk_at "sx"
      refine x_isE (s.at 0 rfl) ec (fun u h => h) (kis_FeedError_FeedError κ) ?_
      walk_at "sx"
      refine x_xf1 (s.at 0 rfl) rfl ?_
      walk_at "sx"
      refine x_newT (by simp) s fun g H4 s => ?_
      walk_at "sx"
      exact ⟨g, rfl, s⟩
    rintro σ' H' ⟨g, rfl, s⟩
    walk_at "sx"
    refine x_if (fun _ => ?_) (fun h => absurd (by decide) h)
    walk_at "sx"
    refine x_isE (s.at 1 rfl) ec (fun u h => h) (kis_FeedError_ValueError κ) ?_
    walk_at "sx"
    refine x_isE (s.at 1 rfl) ec (fun u h => h) (kis_FeedError_ExchangeError κ) ?_
    walk_at "sx"
    have s := s.sub (cs' := _ :: cs) ((List.sublist_cons_self _ _).cons₂ _)
    exact bad i hb g _ s
/-! ### _law_nexts: slots 0 script 1 pool 2 cues 3 states 4 way 5 columns 6 c 7 own 8 column 9 s -/
/-! ### columns: for each cue the nexts of all states -/
def lstI (l : List Int) : PyData := .list (l.map PyData.int)
def ColsB (K : PySem.W.Frag) (B : Hp) (a : Addr) (cols : List (List Int)) : Prop := ∃ xs, SqB true K B a xs ∧ DpAll K B xs (cols.map lstI)
instance {K : PySem.W.Frag} {a : Addr} {cols : List (List Int)} : Mono (fun B => ColsB K B a cols) := ⟨fun B B' e ⟨xs, h, k⟩ => ⟨xs, Mono.up (F := fun B => SqB true K B a xs) B B' e h, dpAll_up e k⟩⟩
theorem lstI_inv {K : PySem.W.Frag} {B : Hp} {v : V} {l : List Int} (h : Dp K B v (lstI l)) : ∃ q, v = .ref q ∧ SqB true K B q (l.map V.int) := by
  unfold lstI at h
  cases h with
  | lst h1 h2 =>
    rw [dpAll_intE h2] at h1
    exact ⟨_, rfl, h1⟩
theorem S.colsX {K : PySem.W.Frag} {F : Hp → Prop} {cs : List (Addr × HO)} {H : Hp} {a : Addr} {cols : List (List Int)} (s : S F cs H) (hF : ∀ B, F B → ColsB K B a cols) : ∃ xs, S (fun B => (SqB true K B a xs ∧ DpAll K B xs (cols.map lstI)) ∧ F B) cs H := by
  have mF := s.mono
  exact (s.imp (G := fun B => ∃ xs, (SqB true K B a xs ∧ DpAll K B xs (cols.map lstI)) ∧ F B) fun B f => let ⟨xs, h1, h2⟩ := hF B f; ⟨xs, ⟨h1, h2⟩, f⟩).exE
/-- the i-th column -/
theorem col_at {K : PySem.W.Frag} {F : Hp → Prop} {cs : List (Addr × HO)} {H : Hp} {xs : List V} {cols : List (List Int)} (s : S F cs H) (hF : ∀ B, F B → DpAll K B xs (cols.map lstI)) {i : Nat} {col : List Int} (hi : cols[i]? = some col) : ∃ q, xs[i]? = some (.ref q) ∧ ∀ B, F B → SqB true K B q (col.map V.int) := by
  obtain ⟨y, hy, dy⟩ := dpAll_map (hF _ s.fact) hi
  obtain ⟨q, rfl, _⟩ := lstI_inv dy
  refine ⟨q, hy, fun B f => ?_⟩
  obtain ⟨y', h1, h2⟩ := dpAll_map (hF B f) hi
  rw [hy] at h1
  cases h1
  obtain ⟨q', h3, h4⟩ := lstI_inv h2
  cases h3
  exact h4
structure ColOk (cols : List (List Int)) (n cues : Nat) : Prop where
  len : cols.length = cues
  all : ∀ col ∈ cols, col.length = n ∧ ∀ x ∈ col, 0 ≤ x ∧ x < n
/-- lists that stand as they are, as own cells -/
def ccO (as : List Addr) (cols : List (List Int)) : List (Addr × HO) := (as.zip cols).map fun x => (x.1, HO.lst (x.2.map V.int))
theorem ccO_len {as : List Addr} {cols : List (List Int)} (h : as.length = cols.length) : (ccO as cols).length = cols.length := by
  unfold ccO
  rw [List.length_map, List.length_zip, h, Nat.min_self]
theorem ccO_snoc {as : List Addr} {cols : List (List Int)} (h : as.length = cols.length) (a : Addr) (col : List Int) : ccO (as ++ [a]) (cols ++ [col]) = ccO as cols ++ [(a, .lst (col.map V.int))] := by
  unfold ccO
  rw [List.zip_append h, List.map_append]
  rfl
theorem ccO_get {as : List Addr} {cols : List (List Int)} {i : Nat} {a : Addr} {col : List Int} (ha : as[i]? = some a) (hc : cols[i]? = some col) : (ccO as cols)[i]? = some (a, .lst (col.map V.int)) := by
  unfold ccO
  rw [List.getElem?_map, (List.getElem?_zip_eq_some (z := (a, col))).mpr ⟨ha, hc⟩]
  rfl
theorem ccO_set {as : List Addr} {cols : List (List Int)} {i : Nat} {a : Addr} (ha : as[i]? = some a) (col : List Int) : (ccO as cols).set i (a, .lst (col.map V.int)) = ccO as (cols.set i col) := by
  induction as generalizing cols i with
  | nil => simp at ha
  | cons b as ih =>
    cases cols with
    | nil => rfl
    | cons d cols =>
      cases i with
      | zero => cases ha; rfl
      | succ i =>
        have := ih (cols := cols) (i := i) (by simpa using ha)
        unfold ccO at this ⊢
        rw [List.zip_cons_cons, List.map_cons, List.set_cons_succ, List.set_cons_succ, List.zip_cons_cons, List.map_cons, this]
theorem S.freezeAll {K : PySem.W.Frag} : ∀ {as : List Addr} {cols : List (List Int)} {F : Hp → Prop} {cs : List (Addr × HO)} {H : Hp}, as.length = cols.length → S F (ccO as cols ++ cs) H → S (fun B => DpAll K B (as.map V.ref) (cols.map lstI) ∧ F B) cs H
  | [], [], F, cs, H, _, s => by
    have mF := s.mono
    exact s.imp fun B f => ⟨.nil, f⟩
  | a :: as, col :: cols, F, cs, H, hl, s => by
    have mF := s.mono
    have s1 : S (fun B => SqB true K B a (col.map V.int) ∧ F B) (ccO as cols ++ cs) H := S.freezeL (K := K) s
    have s2 := S.freezeAll (K := K) (by simpa using hl) s1
    exact s2.imp fun B h => ⟨.cons (.lst h.2.1 (dpAll_ints _)) h.1, h.2.2⟩
  | [], _ :: _, _, _, _, h, _ => by simp at h
  | _ :: _, [], _, _, _, h, _ => by simp at h
def sp_law_nexts (K : PySem.W.Frag) : Sp := fun vs H Q _ => ∃ (F : Hp → Prop) (cs : List (Addr × HO)) (a l : Addr) (ns : List Int) (p1 p2 p3 p4 cues states : Int), vs = [.ref a, .ref l, .int cues, .int states] ∧ S F ((l, pl p1 p2 p3 p4) :: cs) H ∧ (∀ B, F B → SqL K B a (ns.map V.int)) ∧ (1 ≤ cues ∧ cues ≤ 16) ∧ (1 ≤ states ∧ states ≤ 64) ∧
  ∀ r cols x y z u H', ColOk cols states.toNat cues.toNat → S (fun B => ColsB K B r cols ∧ F B) ((l, pl x y z u) :: cs) H' → Q (.ref r) H'
def t_law_nexts (K : PySem.W.Frag) (E : XK) : TS := tSeq (tAsg (tCall (sp_law_draw K) [] E0 (tCons (tVar 1) (tCons (tC (.int 4)) (tNil)))) (gName 4)) (tSeq (tAsg (tLst (tNil)) (gName 5)) (tSeq (tFor (iRng1 (tCons (tVar 2) (tNil))) (gName 6) (tSeq (tAsg (tCall (sp_law_pool K) [] E0 (tCons (tVar 0) (tCons (tOp (rAdd1 K) (tC (.int 1)) (tVar 6)) (tNil)))) (gName 7)) (tSeq (tAsg (tLst (tNil)) (gName 8)) (tSeq (tFor (iRng1 (tCons (tVar 3) (tNil))) (gName 9) (tIfS (tTest (tOp rLt1 (tVar 4) (tC (.int 2)))) (tDrop (tBM K "list" rAppend (tVar 8) (tCons (tCall (sp_law_draw K) [] E0 (tCons (tVar 7) (tCons (tVar 3) (tNil)))) (tNil)))) (tDrop (tBM K "list" rInsert1 (tVar 8) (tCons (tCall (sp_law_draw K) [] E0 (tCons (tVar 7) (tCons (tOp (rAdd1 K) (tVar 9) (tC (.int 1))) (tNil)))) (tCons (tVar 9) (tNil))))))) (tDrop (tBM K "list" rAppend (tVar 5) (tCons (tVar 8) (tNil)))))))) (C8.tCut (tIfS (tTest (tOp (rEq1 K) (tVar 4) (tC (.int 3)))) (tSeq (tAsg (tCall (sp_law_draw K) [] E0 (tCons (tVar 1) (tCons (tVar 2) (tNil)))) (gName 6)) (tAsg (tCall (sp_law_draw K) [] E0 (tCons (tVar 1) (tCons (tVar 3) (tNil)))) (gSub (tOp (rIx1 K) (tVar 5) (tVar 6)) (tCall (sp_law_draw K) [] E0 (tCons (tVar 1) (tCons (tVar 3) (tNil)))) rSetL))) (tNext)) (tRet (tVar 5)))))
theorem pure_law_nexts {K : PySem.W.Frag} (κ : KF K) (vs : List V) (H : Hp) (Q : VK) (E : XK) (h : sp_law_nexts K vs H Q E) : t_law_nexts K E ⟨fun _ H' => Q .non H', Q, fun _ _ => False, fun _ _ => False⟩ (start [("script" : Str), "pool", "cues", "states", "way", "columns", "c", "own", "column", "s"] vs) H := by
  unfold t_law_nexts
  obtain ⟨F, cs, a, l, ns, p1, p2, p3, p4, cues, states, rfl, s, hF, hc, hst, q⟩ := h
  refine x_start (σ' := [some _, some _, some _, some _, none, none, none, none, none, none]) ?_ rfl
  have mF := s.mono
  walk_at "sx"
  refine ⟨_, _, 0, l, _, _, _, _, _, rfl, s, rfl, by first | decide | omega, b8000 (by first | decide | omega), fun H2 x y z u way way0 way1 s => ?_⟩
  simp only [List.set_cons_zero, List.set_cons_succ] at s
  walk_at "sx"
  refine x_newL (by simp) s fun cl H3 s => ?_
  walk_at "sx"
  refine x_forR1 (n := cues.toNat) (by omega) (by omega) (fun i σ' H' => ∃ (as : List Addr) (cols : List (List Int)) (v6 v7 v8 v9 : Option V), σ' = [some (.ref a), some (.ref l), some (.int cues), some (.int states), some (.int way), some (.ref cl), v6, v7, v8, v9] ∧ as.length = i ∧ ColOk cols states.toNat i ∧
    S F ((cl, .lst (as.map V.ref)) :: (l, pl x y z u) :: (ccO as cols ++ cs)) H') ⟨[], [], _, _, _, _, rfl, rfl, ⟨rfl, (fun _ h => nomatch h)⟩, s⟩ ?_ ?_
  · clear s
    rintro i σ' H' hi ⟨as, cols, v6, v7, v8, v9, rfl, hal, ok, s⟩
    walk_at "sx"
    refine ⟨a, ns, _, rfl, hF _ s.fact, by omega, fun p2 H5 x2 y2 z2 u2 h1 h2 h3 => ?_⟩
    have s := s.new h1 h2 h3
    clear h1 h2 h3
    walk_at "sx"
    refine x_newL (by simp) s fun col H6 s => ?_
    walk_at "sx"
    refine x_forR1 (n := states.toNat) (by omega) (by omega) (fun j σ' H' => ∃ (cl2 : List Int) (x2 y2 z2 u2 : Int) (v9 : Option V), σ' = [some (.ref a), some (.ref l), some (.int cues), some (.int states), some (.int way), some (.ref cl), some (.int (i : Nat)), some (.ref p2), some (.ref col), v9] ∧ cl2.length = j ∧ (∀ x ∈ cl2, 0 ≤ x ∧ x < (states.toNat : Int)) ∧
      S F ((col, .lst (cl2.map V.int)) :: (p2, pl x2 y2 z2 u2) :: (cl, .lst (as.map V.ref)) :: (l, pl x y z u) :: (ccO as cols ++ cs)) H') ⟨[], x2, y2, z2, u2, _, rfl, rfl, (fun _ h => nomatch h), s⟩ ?_ ?_
    · clear s
      rintro j σ' H' hj ⟨cl2, x2, y2, z2, u2, v9, rfl, hcl, hx, s⟩
      walk_at "sx"
      refine x_if (fun h => ?_) (fun h => ?_)
      · walk_at "sx"
        refine ⟨_, _, 1, p2, _, _, _, _, _, rfl, s, rfl, by first | decide | omega, b8000 (by first | decide | omega), fun H2 x y z u nx nx0 nx1 s => ?_⟩
        simp only [List.set_cons_zero, List.set_cons_succ] at s
        walk_at "sx"
        refine x_append s (k := 0) rfl (by rw [List.length_map]; exact big_sz (by omega)) fun H7 s => ?_
        simp only [List.set_cons_zero] at s
        walk_at "sx"
        refine ⟨cl2 ++ [nx], x, y, z, u, _, rfl, by rw [List.length_append, hcl]; rfl, fun x hm => ?_, ?_⟩
        · rcases List.mem_append.mp hm with h | h
          · exact hx x h
          · cases List.mem_singleton.mp h
            omega
        · rw [List.map_append]
          exact s
      · walk_at "sx"
        refine ⟨_, _, 1, p2, _, _, _, _, _, rfl, s, rfl, by first | decide | omega, b8000 (by first | decide | omega), fun H2 x y z u nx nx0 nx1 s => ?_⟩
        simp only [List.set_cons_zero, List.set_cons_succ] at s
        walk_at "sx"
        refine x_insert s (n := 0) rfl (by rw [List.length_map]; omega) (by omega) fun H7 s => ?_
        simp only [List.set_cons_zero] at s
        walk_at "sx"
        refine ⟨cl2.take nx.toNat ++ [((j : Nat) : Int)] ++ cl2.drop nx.toNat, x, y, z, u, _, rfl, ?_, fun x hm => ?_, ?_⟩
        · rw [List.length_append, List.length_append, List.length_take, List.length_drop, List.length_singleton]
          omega
        · rcases List.mem_append.mp hm with h | h
          · rcases List.mem_append.mp h with h | h
            · exact hx x (List.mem_of_mem_take h)
            · cases List.mem_singleton.mp h
              omega
          · exact hx x (List.mem_of_mem_drop h)
        · rw [List.map_append, List.map_append, List.map_take, List.map_drop]
          exact s
    · clear s
      rintro σ' H' ⟨cl2, x2, y2, z2, u2, v9, rfl, hcl, hx, s⟩
      walk_at "sx"
      refine x_append s (k := 2) rfl (by rw [List.length_map]; exact big_sz (by omega)) fun H7 s => ?_
      simp only [List.set_cons_zero, List.set_cons_succ] at s
      walk_at "sx"
      refine ⟨as ++ [col], cols ++ [cl2], _, _, _, _, rfl, by rw [List.length_append, hal]; rfl, ⟨by rw [List.length_append, ok.len]; rfl, fun c2 hm => ?_⟩, ?_⟩
      · rcases List.mem_append.mp hm with h | h
        · exact ok.all c2 h
        · cases List.mem_singleton.mp h
          exact ⟨hcl, hx⟩
      · have s := s.sub (cs' := (col, .lst (cl2.map V.int)) :: (cl, .lst (as.map V.ref ++ [V.ref col])) :: (l, pl x y z u) :: (ccO as cols ++ cs)) ((List.sublist_cons_self _ _).cons₂ _)
        rw [ccO_snoc (by rw [hal, ok.len]), List.map_append]
        refine s.perm ?_
        refine (List.Perm.swap _ _ _).trans ((((List.Perm.swap _ _ _).trans (List.Perm.cons _ ?_))).cons _)
        rw [List.append_assoc]
        exact List.perm_middle.symm
  · clear s
    rintro σ' H' ⟨as, cols, v6, v7, v8, v9, rfl, hal, ok, s⟩
    refine x_cut (fun σ' H' => ∃ (as : List Addr) (cols : List (List Int)) (v6 : Option V) (x y z u : Int), σ' = [some (.ref a), some (.ref l), some (.int cues), some (.int states), some (.int way), some (.ref cl), v6, v7, v8, v9] ∧ as.length = cues.toNat ∧ ColOk cols states.toNat cues.toNat ∧
      S F ((cl, .lst (as.map V.ref)) :: (l, pl x y z u) :: (ccO as cols ++ cs)) H') ?_ ?_
    · walk_at "sx"
      refine x_if (fun h => ?_) (fun h => ?_)
      · walk_at "sx"
        refine ⟨_, _, 1, l, _, _, _, _, _, rfl, s, rfl, by first | decide | omega, b8000 (by first | decide | omega), fun H2 x y z u ci ci0 ci1 s => ?_⟩
        simp only [List.set_cons_zero, List.set_cons_succ] at s
        walk_at "sx"
        refine ⟨_, _, 1, l, _, _, _, _, _, rfl, s, rfl, by first | decide | omega, b8000 (by first | decide | omega), fun H2 x y z u nv nv0 nv1 s => ?_⟩
        simp only [List.set_cons_zero, List.set_cons_succ] at s
        walk_at "sx"
        have e1 : as[ci.toNat]? = some as[ci.toNat] := List.getElem?_eq_getElem (by omega)
        generalize as[ci.toNat] = ca at e1
        obtain ⟨col, e2⟩ : ∃ col, cols[ci.toNat]? = some col := ⟨_, List.getElem?_eq_getElem (by have := ok.len; omega)⟩
        have hcol := ok.all col (mem_of_get e2)
        refine x_ixC (xs := as.map V.ref) s (by walk_at "m") (atI_int ci0 (by rw [List.getElem?_map, e1]; rfl)) ?_
        walk_at "sx"
        refine ⟨_, _, 1, l, _, _, _, _, _, rfl, s, rfl, by first | decide | omega, b8000 (by first | decide | omega), fun H2 x y z u si si0 si1 s => ?_⟩
        simp only [List.set_cons_zero, List.set_cons_succ] at s
        walk_at "sx"
        have e3 : ((cl, HO.lst (as.map V.ref)) :: (l, pl x y z u) :: (ccO as cols ++ cs))[ci.toNat + 2]? = some (ca, .lst (col.map V.int)) := by
          rw [List.getElem?_cons_succ, List.getElem?_cons_succ, List.getElem?_append_left (by rw [ccO_len (by rw [hal, ok.len]), ok.len]; omega)]
          exact ccO_get e1 e2
        refine x_setL s (k := ci.toNat + 2) e3 (n := si.toNat) (by
          rw [List.length_map, hcol.1]
          unfold ixN
          rw [if_pos si0, if_pos (by omega)]) fun H7 s => ?_
        rw [List.set_cons_succ, List.set_cons_succ, List.set_append_left _ _ (by rw [ccO_len (by rw [hal, ok.len]), ok.len]; omega), show (col.map V.int).set si.toNat (V.int nv) = (col.set si.toNat nv).map V.int by rw [List.map_set], ccO_set e1] at s
        walk_at "sx"
        refine ⟨as, cols.set ci.toNat (col.set si.toNat nv), _, _, _, _, _, rfl, hal, ⟨by rw [List.length_set, ok.len], fun c2 hm => ?_⟩, s⟩
        rcases List.mem_or_eq_of_mem_set hm with h | rfl
        · exact ok.all c2 h
        · refine ⟨by rw [List.length_set, hcol.1], fun x hm => ?_⟩
          rcases List.mem_or_eq_of_mem_set hm with h | rfl
          · exact hcol.2 x h
          · omega
      · walk_at "sx"
        exact ⟨as, cols, _, _, _, _, _, rfl, hal, ok, s⟩
    clear s ok hal
    rintro σ' H' ⟨as, cols, v6, x, y, z, u, rfl, hal, ok, s⟩
    walk_at "sx"
    have s := s.perm (cs' := ccO as cols ++ ((cl, .lst (as.map V.ref)) :: (l, pl x y z u) :: cs)) (by
      refine List.Perm.symm ?_
      exact List.perm_middle.trans (List.perm_middle.cons _))
    have s := S.freezeAll (K := K) (by rw [hal, ok.len]) s
    exact q cl cols _ _ _ _ _ ok (S.freeze (G := fun B => ColsB K B cl cols ∧ F B) s fun B f e => ⟨⟨_, sq_l e, f.1⟩, f.2⟩)
/-! ### _law_turning: slots 0 states 1 s -/
def sp_law_turning (K : PySem.W.Frag) : Sp := fun vs H Q _ => ∃ (F : Hp → Prop) (cs : List (Addr × HO)) (states : Int), vs = [.int states] ∧ S F cs H ∧ (1 ≤ states ∧ states ≤ 64) ∧
  ∀ r cols H', ColOk cols states.toNat 2 → S (fun B => ColsB K B r cols ∧ F B) cs H' → Q (.ref r) H'
def t_law_turning (K : PySem.W.Frag) (E : XK) : TS := tRet (tLst (tCons (tLc (iRng1 (tCons (tVar 0) (tNil))) (gName 1) (tYes) (tOp rMod1 (tCB rInt1 (tCons (tOp (rAdd1 K) (tVar 1) (tC (.int 1))) (tNil))) (tVar 0)) [1]) (tCons (tOp (rAdd1 K) (tLstRg (tRg1 (tOp rSub1 (tVar 0) (tC (.int 1))))) (tLst (tCons (tC (.int 0)) (tNil)))) (tNil))))
theorem pure_law_turning {K : PySem.W.Frag} (κ : KF K) (vs : List V) (H : Hp) (Q : VK) (E : XK) (h : sp_law_turning K vs H Q E) : t_law_turning K E ⟨fun _ H' => Q .non H', Q, fun _ _ => False, fun _ _ => False⟩ (start [("states" : Str), "s"] vs) H := by
  unfold t_law_turning
  obtain ⟨F, cs, states, rfl, s, hst, q⟩ := h
  refine x_start (σ' := [some _, none]) ?_ rfl
  have mF := s.mono
  walk_at "sx"
  refine x_lcFR (fun i => some (V.int ((((i : Nat) : Int) + 1) % states))) (n := states.toNat) (by omega) (by omega) s ?_ ?_
  · clear s
    intro D acc i H4 Put Skip hi put skip s
    walk_at "wipe"
    walk_at "sx"
    refine ⟨rfl, ?_⟩
    walk_at "sx"
    exact put _ _ rfl s
  clear s
  intro D H5 s
  rw [fm_map] at s
  have e1 : (List.range states.toNat).map (fun i => V.int ((((i : Nat) : Int) + 1) % states)) = ((List.range states.toNat).map fun i : Nat => (((i : Nat) : Int) + 1) % states).map V.int := by rw [List.map_map]; rfl
  rw [e1] at s
  have s := s.freezeL (K := K)
  walk_at "sx"
  have e2 : states - 1 = ((states.toNat - 1 : Nat) : Int) := by omega
  rw [e2]
  refine x_rgL3 (by omega) s fun l2 H6 s => ?_
  walk_at "sx"
  refine x_newL (by simp) s fun l3 H7 s => ?_
  refine x_catL s (s.at 1 rfl) (s.at 0 rfl) (by rw [List.length_map, rng_len]; simp; omega) fun l4 H8 s => ?_
  have e3 : (rng (states.toNat - 1)).map V.int ++ [V.int 0] = (rng (states.toNat - 1) ++ [0]).map V.int := by rw [List.map_append]; rfl
  rw [e3] at s
  have s := s.freezeL (K := K)
  have s := s.drop1.drop1
  walk_at "sx"
  refine x_newL (by simp) s fun l5 H9 s => ?_
  refine q l5 [((List.range states.toNat).map fun i : Nat => (((i : Nat) : Int) + 1) % states), rng (states.toNat - 1) ++ [0]] _ ⟨rfl, fun col hm => ?_⟩ (S.freeze (G := fun B => ColsB K B l5 [((List.range states.toNat).map fun i : Nat => (((i : Nat) : Int) + 1) % states), rng (states.toNat - 1) ++ [0]] ∧ F B) s fun B f e => ⟨⟨_, sq_l e, .cons (.lst f.2.1 (dpAll_ints _)) (.cons (.lst f.1 (dpAll_ints _)) .nil)⟩, f.2.2⟩)
  simp only [List.mem_cons, List.not_mem_nil, or_false] at hm
  rcases hm with rfl | rfl
  · refine ⟨by rw [List.length_map, List.length_range], fun x hx => ?_⟩
    obtain ⟨i, hi, rfl⟩ := List.mem_map.mp hx
    have h1 := Int.emod_nonneg ((i : Int) + 1) (b := states) (by omega)
    have h2 := Int.emod_lt_of_pos ((i : Int) + 1) (b := states) (by omega)
    omega
  · refine ⟨by rw [List.length_append, rng_len, List.length_singleton]; omega, fun x hx => ?_⟩
    rcases List.mem_append.mp hx with h | h
    · obtain ⟨i, hi, rfl⟩ := rng_in h
      omega
    · cases List.mem_singleton.mp h
      omega
/-! ### _law_made: slots 0 columns 1 pool 2 replies 3 rows 4 s 5 column -/
def RowOk (cues replies states : Int) (row : List (Int × Int)) : Prop := (row.length : Int) = cues ∧ ∀ e ∈ row, entOk states replies e
theorem good_rows {cues replies states start : Int} {rows : List (List (Int × Int))} (hc : 1 ≤ cues ∧ cues ≤ 16) (hr : 1 ≤ replies ∧ replies ≤ 256) (hs : 1 ≤ states ∧ states ≤ 64) (hl : (rows.length : Int) = states) (h0 : 0 ≤ start ∧ start < states) (hrow : ∀ row ∈ rows, RowOk cues replies states row) : GoodC cues replies rows start :=
  ⟨hc, hr, by omega, by omega, fun row h => by rw [hl]; exact hrow row h⟩
theorem fit_size {n : Int} : Fit 4 (.tuple [.str "size", .int n]) := ⟨by simp, fun d hd => by
  simp only [List.mem_cons, List.not_mem_nil, or_false] at hd
  rcases hd with rfl | rfl <;> trivial⟩
theorem rowOk_more {cues r1 r2 states : Int} {row : List (Int × Int)} (h : RowOk cues r1 states row) (hr : r1 ≤ r2) : RowOk cues r2 states row := ⟨h.1, fun e he => ⟨(h.2 e he).1, (h.2 e he).2.1, Int.lt_of_lt_of_le (h.2 e he).2.2 hr⟩⟩
def sp_law_made (K : PySem.W.Frag) : Sp := fun vs H Q _ => ∃ (F : Hp → Prop) (cs : List (Addr × HO)) (a l : Addr) (cols : List (List Int)) (p1 p2 p3 p4 replies : Int) (n cues : Nat), vs = [.ref a, .ref l, .int replies] ∧ S F ((l, pl p1 p2 p3 p4) :: cs) H ∧ (∀ B, F B → ColsB K B a cols) ∧ ColOk cols n cues ∧ (1 ≤ cues ∧ cues ≤ 16) ∧ (1 ≤ n ∧ n ≤ 64) ∧ (1 ≤ replies ∧ replies ≤ 256) ∧
  ∀ r rows x y z u H', rows.length = n → (∀ row ∈ rows, RowOk cues replies n row) → (∀ (s k : Nat) col, s < n → cols[k]? = some col → col[s]? = some (nextI rows (s : Nat) (k : Nat))) → S (fun B => RowsB true K B r rows ∧ F B) ((l, pl x y z u) :: cs) H' → Q (.ref r) H'
def t_law_made (K : PySem.W.Frag) (E : XK) : TS := tSeq (tAsg (tLst (tNil)) (gName 3)) (tSeq (tFor (iRng1 (tCons (tCB (rLen1 K) (tCons (tOp (rIx1 K) (tVar 0) (tC (.int 0))) (tNil))) (tNil))) (gName 4) (tDrop (tBM K "list" rAppend (tVar 3) (tCons (tCB (rTuple1 K) (tCons (tLc (iSq K (tVar 0)) (gName 5) (tYes) (tTup (tCons (tOp (rIx1 K) (tVar 5) (tVar 4)) (tCons (tCall (sp_law_draw K) [] E0 (tCons (tVar 1) (tCons (tVar 2) (tNil)))) (tNil)))) [5]) (tNil))) (tNil))))) (tRet (tVar 3)))
theorem pure_law_made {K : PySem.W.Frag} (κ : KF K) (vs : List V) (H : Hp) (Q : VK) (E : XK) (h : sp_law_made K vs H Q E) : t_law_made K E ⟨fun _ H' => Q .non H', Q, fun _ _ => False, fun _ _ => False⟩ (start [("columns" : Str), "pool", "replies", "rows", "s", "column"] vs) H := by
  unfold t_law_made
  obtain ⟨F, cs, a, l, cols, p1, p2, p3, p4, replies, n, cues, rfl, s, hF, ok, hc, hn, hr, q⟩ := h
  refine x_start (σ' := [some _, some _, some _, none, none, none]) ?_ rfl
  have mF0 := s.mono
  obtain ⟨xs, s⟩ := s.colsX hF
  have xl := dpAll_len s.fact.1.2
  rw [List.length_map, ok.len] at xl
  obtain ⟨col0, e0⟩ : ∃ col, cols[0]? = some col := ⟨_, List.getElem?_eq_getElem (by have := ok.len; omega)⟩
  have l0 := (ok.all col0 (mem_of_get e0)).1
  obtain ⟨q0, hq0, hs0⟩ := col_at s (fun B f => f.1.2) e0
  have mF := s.mono
  walk_at "sx"
  refine x_newL (by simp) s fun rl H3 s => ?_
  walk_at "sx"
  refine x_ixL s.fact.1.1 (atI_nat (j := 0) hq0) ?_
  walk_at "sx"
  refine x_lenL (.inl (hs0 _ s.fact)) ?_
  rw [List.length_map, l0]
  walk_at "sx"
  refine x_forR1 (n := n) rfl (by omega) (fun i σ' H' => ∃ (ys : List V) (rows : List (List (Int × Int))) (v4 v5 : Option V) (x y z u : Int), σ' = [some (.ref a), some (.ref l), some (.int replies), some (.ref rl), v4, none] ∧ rows.length = i ∧ (∀ row ∈ rows, RowOk cues replies n row) ∧ (∀ (s : Nat) row, rows[s]? = some row → ∀ (k : Nat) col, cols[k]? = some col → ∃ e, row[k]? = some e ∧ col[s]? = some e.1) ∧
    S (fun B => DpAll K B ys (rows.map rowD) ∧ (SqB true K B a xs ∧ DpAll K B xs (cols.map lstI)) ∧ F B) ((rl, .lst ys) :: (l, pl x y z u) :: cs) H') ⟨[], [], _, none, p1, p2, p3, p4, rfl, rfl, (fun _ h => nomatch h), (fun s row h => by simp at h), s.imp fun B f => ⟨.nil, f⟩⟩ ?_ ?_
  · clear s
    rintro i σ' H' hi ⟨ys, rows, v4, v5, x, y, z, u, rfl, hl, hrow, hnx, s⟩
    have yl := dpAll_len s.fact.1
    rw [List.length_map] at yl
    walk_at "sx"
    refine x_lcPB (K := K) (bb := true) (α := Int × Int × Int × Int) (cf := fun w => (rl, .lst ys) :: (l, pl w.1 w.2.1 w.2.2.1 w.2.2.2) :: cs) (x, y, z, u) (fun k d => ∃ e : Int × Int, d = .tuple [.int e.1, .int e.2] ∧ (∀ col, cols[k]? = some col → col[i]? = some e.1) ∧ entOk n replies e) (n := cues) (fun B h => h.2.1.1) xl (by omega) s ?_ ?_
    · clear s
      rintro D acc ds ⟨x, y, z, u⟩ k v H4 Put Skip hv hk hl hP put s
      obtain ⟨col, ec⟩ : ∃ col, cols[k]? = some col := ⟨_, List.getElem?_eq_getElem (by have := ok.len; omega)⟩
      obtain ⟨cl, cx⟩ := ok.all col (mem_of_get ec)
      obtain ⟨cq, hcq, hcs⟩ := col_at s (fun B f => f.2.2.1.2) ec
      rw [hv] at hcq
      cases hcq
      obtain ⟨nv, env⟩ : ∃ nv, col[i]? = some nv := ⟨_, List.getElem?_eq_getElem (by omega)⟩
      have hnv := cx nv (mem_of_get env)
      walk_at "wipe"
      walk_at "sx"
      refine ⟨rfl, ?_⟩
      walk_at "sx"
      refine x_ixL (hcs _ s.fact) (atI_nat (j := i) (by rw [List.getElem?_map, env]; rfl)) ?_
      walk_at "sx"
      refine ⟨_, _, 2, l, _, _, _, _, _, rfl, s, rfl, by first | decide | omega, b8000 (by first | decide | omega), fun H2 x y z u r1 r10 r11 s => ?_⟩
      simp only [List.set_cons_zero, List.set_cons_succ] at s
      walk_at "sx"
      refine x_newT (by simp) s fun t H5 s => ?_
      have s := s.freezeT (K := K)
      exact put _ (.tuple [.int nv, .int r1]) (x, y, z, u) _ ⟨(nv, r1), rfl, fun c2 h => by rw [ec] at h; cases h; exact env, ⟨hnv, r10, r11⟩⟩ (s.imp fun B h => ⟨.tup h.1 (.cons (.int _) (.cons (.int _) .nil)), h.2⟩)
    clear s
    rintro D acc ds ⟨x, y, z, u⟩ H5 hl2 hP s
    obtain ⟨row, rfl, hrw⟩ := ds_choose hP
    rw [List.length_map] at hl2
    have s := s.freezeL (K := K)
    walk_at "sx"
    refine x_tupof s.fact.1 s fun t H6 s => ?_
    have s := s.freezeT (K := K)
    walk_at "sx"
    refine x_append s (k := 0) rfl (by rw [yl]; exact big_sz (by omega)) fun H7 s => ?_
    simp only [List.set_cons_zero] at s
    walk_at "sx"
    refine ⟨ys ++ [.ref t], rows ++ [row], _, none, x, y, z, u, rfl, by rw [List.length_append, hl]; rfl, fun r2 hr2 => ?_, fun s2 r2 hr2 k col hcol => ?_, s.imp fun B h => ⟨?_, h.2.2.2.2⟩⟩
    · rcases List.mem_append.mp hr2 with h | h
      · exact hrow r2 h
      · cases List.mem_singleton.mp h
        refine ⟨by rw [hl2], fun e he => ?_⟩
        obtain ⟨k, hk⟩ := List.mem_iff_getElem?.mp he
        exact (hrw k e hk).2
    · rcases Nat.lt_or_ge s2 i with h | h
      · rw [List.getElem?_append_left (by omega)] at hr2
        exact hnx s2 r2 hr2 k col hcol
      · have h2 := (List.getElem?_eq_some_iff.mp hr2).1
        rw [List.length_append, List.length_singleton] at h2
        obtain rfl : s2 = i := by omega
        rw [List.getElem?_append_right (by omega), hl, Nat.sub_self] at hr2
        cases hr2
        have hk : k < row.length := by have := (List.getElem?_eq_some_iff.mp hcol).1; have := ok.len; omega
        exact ⟨row[k], List.getElem?_eq_getElem hk, (hrw k _ (List.getElem?_eq_getElem hk)).1 col hcol⟩
    · rw [List.map_append]
      exact dpAll_snoc h.2.2.2.1 (.tup h.1 h.2.2.1)
  · clear s
    rintro σ' H' ⟨ys, rows, v4, v5, x, y, z, u, rfl, hl, hrow, hnx, s⟩
    walk_at "sx"
    refine q rl rows x y z u _ hl hrow (fun s k col hs hcol => ?_) (S.freeze (G := fun B => RowsB true K B rl rows ∧ F B) s fun B f e => ⟨⟨ys, sq_l e, f.1⟩, f.2.2⟩)
    have er : rows[s]? = some rows[s] := List.getElem?_eq_getElem (by omega)
    obtain ⟨e, h1, h2⟩ := hnx s _ er k col hcol
    rw [h2]
    unfold nextI
    rw [List.getD_eq_getElem?_getD, List.getD_eq_getElem?_getD, Int.toNat_natCast, Int.toNat_natCast, er, Option.getD_some, h1]
    rfl
/-! ### _law_merging: slots 0 columns 1 states 2 found 3 p 4 k 5 many 6 q 7 column -/
section
variable {σ : L2.St} {H : Hp} {Q : VK} {j : Int} {nx : L2.St → Hp → Prop} {rt : VK} {g : TG} {tb : TS}
/-- for i in range(n), left by break at will -/
theorem x_forR1E {n : Nat} (hj : j = (n : Int)) (hn : n < 2 ^ 61) (Pv : Nat → L2.St → Hp → Prop) (E : L2.St → Hp → Prop) (h0 : Pv 0 σ H)
    (hs : (∀ σ H, E σ H → nx σ H) → ∀ i σ H, i < n → Pv i σ H → g (.int (i : Nat)) σ H fun σ2 H2 => tb ⟨Pv (i + 1), rt, nx, Pv (i + 1)⟩ σ2 H2) (he : ∀ σ H, Pv n σ H → E σ H) (hd : ∀ σ H, E σ H → nx σ H) :
    ∃ k : Int, [V.int j] = [.int k] ∧ -(2 ^ 62) ≤ k ∧ k < 2 ^ 62 ∧ ForW (Itr 0 k.toNat) σ H nx rt g tb := x_forR1 hj hn Pv h0 (hs hd) fun σ H h => hd σ H (he σ H h)
end
def ddStep {κ : Type} [DecidableEq κ] (l : List κ) (x : κ) : List κ := if x ∈ l then l else l ++ [x]
theorem putK_old {κ : Type} [DecidableEq κ] {kvs : List (κ × V)} {k : κ} {v : V} (h : k ∈ kvs.map Prod.fst) : (putK kvs k v).map Prod.fst = kvs.map Prod.fst := by
  unfold putK
  have ha : (kvs.any fun kv => decide (kv.1 = k)) = true := by
    obtain ⟨p, hp, e⟩ := List.mem_map.mp h
    exact List.any_eq_true.mpr ⟨p, hp, decide_eq_true e⟩
  rw [if_pos ha, List.map_map]
  refine List.map_congr_left fun p _ => ?_
  show (if p.1 = k then (p.1, v) else p).1 = p.1
  split <;> rfl
theorem put_keys {kvs : List (List L2.Key × V)} {ps : List (Int × Int)} {x : Int × Int} {v : V} (h : kvs.map Prod.fst = ps.map PK) : (putK kvs (PK x) v).map Prod.fst = (ddStep ps x).map PK := by
  unfold ddStep
  by_cases hx : x ∈ ps
  · rw [if_pos hx, putK_old (by rw [h]; exact pk_mem.mpr hx), h]
  · rw [if_neg hx, putK_new v (valV_not (by rw [h]; exact fun z => hx (pk_mem.mp z))), List.map_append, List.map_append, h]
    rfl
theorem step_mem {ps : List (Int × Int)} {x y : Int × Int} : y ∈ ddStep ps x ↔ y ∈ ps ∨ y = x := by
  unfold ddStep
  split
  · rename_i h
    exact ⟨.inl, fun z => z.elim id fun e => e ▸ h⟩
  · rw [List.mem_append, List.mem_singleton]
theorem step_pre {ps : List (Int × Int)} {x : Int × Int} : ps <+: ddStep ps x := by
  unfold ddStep
  split
  · exact List.prefix_refl _
  · exact List.prefix_append _ _
def colOf (c : CD) (k : Nat) : List Int := (List.range c.rows.length).map fun s : Nat => nextI c.rows (s : Nat) (k : Nat)
def colsOf (c : CD) : List (List Int) := (List.range c.cues.toNat).map (colOf c)
theorem colsOf_get {c : CD} {k : Nat} (h : k < c.cues.toNat) : (colsOf c)[k]? = some (colOf c k) := by
  unfold colsOf
  rw [List.getElem?_map, List.getElem?_range h]
  rfl
theorem colsOf_len (c : CD) : (colsOf c).length = c.cues.toNat := by unfold colsOf; simp
theorem colOf_len (c : CD) (k : Nat) : (colOf c k).length = c.rows.length := by unfold colOf; simp
theorem colOf_at {c : CD} {k : Nat} {i : Int} (h : 0 ≤ i ∧ i < c.rows.length) : ((colOf c k).map V.int)[i.toNat]? = some (.int (nextI c.rows i (k : Nat))) := by
  unfold colOf
  rw [List.getElem?_map, List.getElem?_map, List.getElem?_range (by omega)]
  show some (V.int (nextI c.rows ((i.toNat : Nat) : Int) (k : Nat))) = _
  rw [Int.toNat_of_nonneg h.1]
theorem cols_eq {c : CD} {cols : List (List Int)} {n cues : Nat} (ok : ColOk cols n cues) (h1 : c.rows.length = n) (h2 : c.cues.toNat = cues) (h : ∀ (s k : Nat) col, s < n → cols[k]? = some col → col[s]? = some (nextI c.rows (s : Nat) (k : Nat))) : cols = colsOf c := by
  apply List.ext_getElem?
  intro k
  by_cases hk : k < cues
  · have hkl : k < cols.length := by have := ok.len; omega
    have ek : cols[k]? = some cols[k] := List.getElem?_eq_getElem hkl
    rw [colsOf_get (by omega), ek]
    congr 1
    have hl := (ok.all _ (mem_of_get ek)).1
    apply List.ext_getElem?
    intro s
    by_cases hs : s < n
    · rw [h s k _ hs ek]
      unfold colOf
      rw [List.getElem?_map, List.getElem?_range (by omega)]
      rfl
    · rw [List.getElem?_eq_none_iff.mpr (by omega), List.getElem?_eq_none_iff.mpr (by rw [colOf_len]; omega)]
  · rw [List.getElem?_eq_none_iff.mpr (by have := ok.len; omega), List.getElem?_eq_none_iff.mpr (by rw [colsOf_len]; omega)]
/-- some feed leads both to one -/
def MergP (c : CD) (p : Int × Int) : Prop := ∃ w : List Nat, (∀ k ∈ w, k < c.cues.toNat) ∧ runB (nxC c) p.1 w = runB (nxC c) p.2 w
def nx2 (c : CD) (p : Int × Int) (k : Nat) : Int × Int := (nextI c.rows p.1 (k : Nat), nextI c.rows p.2 (k : Nat))
theorem MergP.step {c : CD} {p : Int × Int} {k : Nat} (hk : k < c.cues.toNat) (h : MergP c (nx2 c p k)) : MergP c p := by
  obtain ⟨w, h1, h2⟩ := h
  refine ⟨k :: w, fun d hd => ?_, h2⟩
  rcases List.mem_cons.mp hd with rfl | hd
  · exact hk
  · exact h1 d hd
structure FK (c : CD) (kvs : List (List L2.Key × V)) (ks : List (Int × Int)) : Prop where
  keys : kvs.map Prod.fst = ks.map PK
  nd : ks.Nodup
  ok : ∀ p ∈ ks, inP c p ∧ MergP c p
theorem FK.len {c : CD} {kvs : List (List L2.Key × V)} {ks : List (Int × Int)} (h : FK c kvs ks) : kvs.length = ks.length := by
  have := congrArg List.length h.keys
  simpa using this
theorem FK.max {c : CD} {kvs : List (List L2.Key × V)} {ks : List (Int × Int)} (h : FK c kvs ks) : ks.length ≤ c.rows.length * c.rows.length := nodup_pair h.nd fun p hp => (h.ok p hp).1
theorem FK.put {c : CD} {kvs : List (List L2.Key × V)} {ks : List (Int × Int)} (h : FK c kvs ks) {p : Int × Int} (hp : inP c p) (hm : MergP c p) (v : V) : ∃ ks', FK c (putK kvs (PK p) v) ks' ∧ ks <+: ks' ∧ p ∈ ks' := by
  refine ⟨ddStep ks p, ⟨put_keys h.keys, ?_, fun q hq => ?_⟩, step_pre, step_mem.mpr (.inr rfl)⟩
  · unfold ddStep
    split
    · exact h.nd
    · rename_i hn
      rw [List.nodup_append]
      exact ⟨h.nd, by simp, fun a ha b hb => by cases List.mem_singleton.mp hb; exact fun z => hn (z ▸ ha)⟩
  · rcases step_mem.mp hq with z | rfl
    · exact h.ok q z
    · exact ⟨hp, hm⟩
theorem FK.kn {c : CD} {kvs : List (List L2.Key × V)} {ks : List (Int × Int)} (h : FK c kvs ks) : KnP kvs ks := by
  refine ⟨fun p => ?_, fun k hk => ?_⟩
  · by_cases hp : p ∈ ks
    · rw [decide_eq_true hp, valV_mem (by rw [h.keys]; exact pk_mem.mpr hp)]
    · rw [decide_eq_false hp, valV_not (by rw [h.keys]; exact fun z => hp (pk_mem.mp z))]
      rfl
  · rw [h.keys] at hk
    obtain ⟨p, hp, rfl⟩ := List.mem_map.mp hk
    exact ⟨p, hp, rfl⟩
/-- what is found from behind -/
def FoundS (c : CD) (kvs : List (List L2.Key × V)) (ks : List (Int × Int)) : Prop := FK c kvs ks ∧ ∀ p, inP c p → MergP c p → p ∈ ks
def Diag (c : CD) (ks : List (Int × Int)) (m : Nat) : Prop := ∀ j : Nat, j < m → ((j : Int), (j : Int)) ∈ ks
def ClosedK (c : CD) (ks : List (Int × Int)) : Prop := ∀ (p q k : Nat), p < c.rows.length → q < c.rows.length → k < c.cues.toNat → nx2 c ((p : Int), (q : Int)) k ∈ ks → ((p : Int), (q : Int)) ∈ ks
theorem found_all {c : CD} (g : c.good) {kvs : List (List L2.Key × V)} {ks : List (Int × Int)} (h : FK c kvs ks) (hd : Diag c ks c.rows.length) (hc : ClosedK c ks) : FoundS c kvs ks := by
  have cast : ∀ p, inP c p → ∃ a b : Nat, p = ((a : Int), (b : Int)) ∧ a < c.rows.length ∧ b < c.rows.length := fun p hp => ⟨p.1.toNat, p.2.toNat, Prod.ext (by show p.1 = ((p.1.toNat : Nat) : Int); have := hp.1; omega) (by show p.2 = ((p.2.toNat : Nat) : Int); have := hp.2; omega), by have := hp.1; omega, by have := hp.2; omega⟩
  have key : ∀ (w : List Nat) (p : Int × Int), (∀ k ∈ w, k < c.cues.toNat) → inP c p → runB (nxC c) p.1 w = runB (nxC c) p.2 w → p ∈ ks := fun w => by
    induction w with
    | nil =>
      intro p _ hp he
      obtain ⟨a, b, rfl, ha, hb⟩ := cast p hp
      have he : (a : Int) = (b : Int) := he
      rw [← he]
      exact hd a ha
    | cons k w ih =>
      intro p hw hp he
      have hk := hw k (List.mem_cons_self ..)
      have h1 := ih (nx2 c p k) (fun d hd => hw d (List.mem_cons_of_mem _ hd)) ⟨nxI_in g hp.1 hk, nxI_in g hp.2 hk⟩ he
      obtain ⟨a, b, rfl, ha, hb⟩ := cast p hp
      exact hc a b k ha hb hk h1
  exact ⟨h, fun p hp ⟨w, h1, h2⟩ => key w p h1 hp h2⟩
/-- what is done in a round -/
def Dn (c : CD) (ks0 ks : List (Int × Int)) (p q d : Nat) : Prop := ∀ (p' q' k' : Nat), p' < c.rows.length → q' < c.rows.length → k' < c.cues.toNat → (p' < p ∨ (p' = p ∧ (q' < q ∨ (q' = q ∧ k' < d)))) → nx2 c ((p' : Int), (q' : Int)) k' ∈ ks0 → ((p' : Int), (q' : Int)) ∈ ks
def sp_law_merging (K : PySem.W.Frag) : Sp := fun vs H Q _ => ∃ (F : Hp → Prop) (cs : List (Addr × HO)) (a : Addr) (c : CD), vs = [.ref a] ∧ S F cs H ∧ (∀ B, F B → ColsB K B a (colsOf c)) ∧ c.good ∧
  ∀ p kvs ks H', FoundS c kvs ks → S F ((p, .dT kvs) :: cs) H' → Q (.ref p) H'
def t_law_merging (K : PySem.W.Frag) (E : XK) : TS := tSeq (tAsg (tCB (rLen1 K) (tCons (tOp (rIx1 K) (tVar 0) (tC (.int 0))) (tNil))) (gName 1)) (tSeq (tAsg (tDNewT) (gName 2)) (tSeq (tFor (iRng1 (tCons (tVar 1) (tNil))) (gName 3) (sDPut (tVar 2) (tTup (tCons (tVar 3) (tCons (tVar 3) (tNil)))) (tC (.bl true)))) (tSeq (tFor (iRng1 (tCons (tOp (rMul1 K) (tVar 1) (tVar 1)) (tNil))) (gName 4) (tSeq (tAsg (tCB rLenD1 (tCons (tVar 2) (tNil))) (gName 5)) (tSeq (tFor (iRng1 (tCons (tVar 1) (tNil))) (gName 3) (tFor (iRng1 (tCons (tVar 1) (tNil))) (gName 6) (tFor (iSq K (tVar 0)) (gName 7) (tIfS (tB (tDIn (tTup (tCons (tOp (rIx1 K) (tVar 7) (tVar 3)) (tCons (tOp (rIx1 K) (tVar 7) (tVar 6)) (tNil)))) (tVar 2))) (sDPut (tVar 2) (tTup (tCons (tVar 3) (tCons (tVar 6) (tNil)))) (tC (.bl true))) (tNext))))) (tIfS (tTest (tOp (rEq1 K) (tCB rLenD1 (tCons (tVar 2) (tNil))) (tVar 5))) (tBreak) (tNext))))) (tRet (tVar 2)))))
theorem pure_law_merging {K : PySem.W.Frag} (κ : KF K) (vs : List V) (H : Hp) (Q : VK) (E : XK) (h : sp_law_merging K vs H Q E) : t_law_merging K E ⟨fun _ H' => Q .non H', Q, fun _ _ => False, fun _ _ => False⟩ (start [("columns" : Str), "states", "found", "p", "k", "many", "q", "column"] vs) H := by
  unfold t_law_merging
  obtain ⟨F, cs, a, c, rfl, s, hF, g, q⟩ := h
  refine x_start (σ' := [some _, none, none, none, none, none, none, none]) ?_ rfl
  have mF0 := s.mono
  have gs := g.s
  have gc := g.c
  have big : c.rows.length * c.rows.length ≤ 64 * 64 := Nat.mul_le_mul gs.2 gs.2
  obtain ⟨xs, s⟩ := s.colsX hF
  have xl := dpAll_len s.fact.1.2
  rw [List.length_map, colsOf_len] at xl
  obtain ⟨q0, hq0, hs0⟩ := col_at s (fun B f => f.1.2) (colsOf_get (c := c) (k := 0) (by omega))
  obtain ⟨G, hG⟩ : ∃ G : Hp → Prop, G = fun B => (SqB true K B a xs ∧ DpAll K B xs ((colsOf c).map lstI)) ∧ F B := ⟨_, rfl⟩
  rw [← hG] at s
  have mG := s.mono
  have hg : ∀ B, G B → (SqB true K B a xs ∧ DpAll K B xs ((colsOf c).map lstI)) ∧ F B := fun B h => by rw [hG] at h; exact h
  have hs0 : ∀ B, G B → SqB true K B q0 ((colOf c 0).map V.int) := fun B h => hs0 B (hg B h)
  clear hG
  walk_at "sx"
  refine x_ixL (hg _ s.fact).1.1 (atI_nat (j := 0) hq0) ?_
  walk_at "sx"
  refine x_lenL (.inl (hs0 _ s.fact)) ?_
  rw [List.length_map, colOf_len]
  walk_at "sx"
  refine x_dnewT s fun fd H1 s => ?_
  walk_at "sx"
  refine x_forR1 (n := c.rows.length) rfl (by omega) (fun i σ' H' => ∃ (kvs : List (List L2.Key × V)) (ks : List (Int × Int)) (v3 : Option V), σ' = [some (.ref a), some (.int c.rows.length), some (.ref fd), v3, none, none, none, none] ∧ FK c kvs ks ∧ Diag c ks i ∧ S G ((fd, .dT kvs) :: cs) H') ⟨[], [], _, rfl, ⟨rfl, List.nodup_nil, (fun _ h => nomatch h)⟩, (fun j h => absurd h (Nat.not_lt_zero j)), s⟩ ?_ ?_
  · clear s
    rintro i σ' H' hi ⟨kvs, ks, v3, rfl, hk, hd, s⟩
    have hl := hk.len
    have hm := hk.max
    walk_at "sx"
    refine x_newT (by simp) s fun t H2 s => ?_
    walk_at "sx"
    refine x_dpT (kt := PK ((i : Int), (i : Int))) s (n := 1) rfl (s.at 0 rfl) (by omega) fun H3 s => ?_
    obtain ⟨ks', h1, h2, h3⟩ := hk.put (p := ((i : Int), (i : Int))) ⟨⟨by show (0 : Int) ≤ (i : Int); omega, by show (i : Int) < (c.rows.length : Int); omega⟩, by show (0 : Int) ≤ (i : Int); omega, by show (i : Int) < (c.rows.length : Int); omega⟩ ⟨[], (fun _ h => nomatch h), rfl⟩ (.bl true)
    refine ⟨_, ks', _, rfl, h1, fun j hj => ?_, s.drop1⟩
    rcases Nat.lt_or_ge j i with z | z
    · exact h2.subset (hd j z)
    · obtain rfl : j = i := by omega
      exact h3
  clear s
  rintro σ' H' ⟨kvs, ks, v3, rfl, hk, hd, s⟩
  walk_at "sx"
  have hn0 : c.rows.length ≤ ks.length := by
    have := nodup_sub_len (l := (List.range c.rows.length).map fun j : Nat => ((j : Int), (j : Int))) (m := ks) (List.pairwise_map.mpr (List.nodup_range.imp fun h e => h (Int.ofNat.inj (Prod.mk.inj e).1))) fun x hx => by
      obtain ⟨j, hj, rfl⟩ := List.mem_map.mp hx
      exact hd j (List.mem_range.mp hj)
    rw [List.length_map, List.length_range] at this
    exact this
  have emul : ((c.rows.length : Nat) : Int) * ((c.rows.length : Nat) : Int) = ((c.rows.length * c.rows.length : Nat) : Int) := (Int.natCast_mul ..).symm
  refine x_forR1E (n := c.rows.length * c.rows.length) emul (by omega) (fun i σ' H' => ∃ (kvs : List (List L2.Key × V)) (ks : List (Int × Int)) (v3 v4 v5 v6 v7 : Option V), σ' = [some (.ref a), some (.int c.rows.length), some (.ref fd), v3, v4, v5, v6, v7] ∧ FK c kvs ks ∧ Diag c ks c.rows.length ∧ c.rows.length + i ≤ ks.length ∧ S G ((fd, .dT kvs) :: cs) H')
    (fun σ' H' => ∃ (kvs : List (List L2.Key × V)) (ks : List (Int × Int)) (v3 v4 v5 v6 v7 : Option V), σ' = [some (.ref a), some (.int c.rows.length), some (.ref fd), v3, v4, v5, v6, v7] ∧ FoundS c kvs ks ∧ S G ((fd, .dT kvs) :: cs) H') ⟨kvs, ks, _, _, _, _, _, rfl, hk, hd, hn0, s⟩ ?_ ?_ ?_
  · clear s hk hd hn0
    rintro fin i σ' H' hi ⟨kvs, ks0, v3, v4, v5, v6, v7, rfl, hk, hd, hn, s⟩
    have hl0 := hk.len
    walk_at "sx"
    refine x_lenDT (s.at 0 rfl) ?_
    rw [hl0]
    walk_at "sx"
    refine x_forR1 (n := c.rows.length) rfl (by omega) (fun p σ' H' => ∃ (kvs : List (List L2.Key × V)) (ks : List (Int × Int)) (v3 v6 v7 : Option V), σ' = [some (.ref a), some (.int c.rows.length), some (.ref fd), v3, some (.int (i : Nat)), some (.int (ks0.length : Nat)), v6, v7] ∧ FK c kvs ks ∧ ks0 <+: ks ∧ Dn c ks0 ks p 0 0 ∧ S G ((fd, .dT kvs) :: cs) H') ⟨kvs, ks0, _, _, _, rfl, hk, List.prefix_refl _, (fun p' q' k' _ _ _ h => by omega), s⟩ ?_ ?_
    · clear s hk
      rintro p σ' H' hp ⟨kvs, ks, v3, v6, v7, rfl, hk, pre, dn, s⟩
      walk_at "sx"
      refine x_forR1 (n := c.rows.length) rfl (by omega) (fun q σ' H' => ∃ (kvs : List (List L2.Key × V)) (ks : List (Int × Int)) (v6 v7 : Option V), σ' = [some (.ref a), some (.int c.rows.length), some (.ref fd), some (.int (p : Nat)), some (.int (i : Nat)), some (.int (ks0.length : Nat)), v6, v7] ∧ FK c kvs ks ∧ ks0 <+: ks ∧ Dn c ks0 ks p q 0 ∧ S G ((fd, .dT kvs) :: cs) H') ⟨kvs, ks, _, _, rfl, hk, pre, dn, s⟩ ?_ ?_
      · clear s hk pre dn
        rintro qq σ' H' hq ⟨kvs, ks, v6, v7, rfl, hk, pre, dn, s⟩
        walk_at "sx"
        refine x_forB (hg _ s.fact).1.1 (fun d σ' H' => ∃ (kvs : List (List L2.Key × V)) (ks : List (Int × Int)) (v7 : Option V), σ' = [some (.ref a), some (.int c.rows.length), some (.ref fd), some (.int (p : Nat)), some (.int (i : Nat)), some (.int (ks0.length : Nat)), some (.int (qq : Nat)), v7] ∧ FK c kvs ks ∧ ks0 <+: ks ∧ Dn c ks0 ks p qq d ∧ S G ((fd, .dT kvs) :: cs) H') ⟨kvs, ks, _, rfl, hk, pre, dn, s⟩ (fun i σ H h => by obtain ⟨_, _, _, _, _, _, _, s⟩ := h; exact (hg _ s.fact).1.1) ?_ ?_
        · clear s hk pre dn
          rintro d v σ' H' hv ⟨kvs, ks, v7, rfl, hk, pre, dn, s⟩
          have hdc : d < c.cues.toNat := by have := (List.getElem?_eq_some_iff.mp hv).1; omega
          obtain ⟨cq, hcq, hcs⟩ := col_at s (fun B f => (hg B f).1.2) (colsOf_get (c := c) hdc)
          rw [hv] at hcq
          cases hcq
          have hm := hk.max
          have hlk := hk.len
          have ip : (0 : Int) ≤ (p : Int) ∧ (p : Int) < (c.rows.length : Int) := by omega
          have iq : (0 : Int) ≤ (qq : Int) ∧ (qq : Int) < (c.rows.length : Int) := by omega
          walk_at "sx"
          refine x_ixL (hcs _ s.fact) (atI_int ip.1 (colOf_at ip)) ?_
          walk_at "sx"
          refine x_ixL (hcs _ s.fact) (atI_int iq.1 (colOf_at iq)) ?_
          walk_at "sx"
          refine x_newT (by simp) s fun t H2 s => ?_
          walk_at "sx"
          refine x_diR (kt := PK (nx2 c ((p : Int), (qq : Int)) d)) (.inl (s.at 1 rfl)) (s.at 0 rfl) ?_
          have s := s.drop1
          rw [if_neg (by decide), hk.kn.1]
          walk_at "sx"
          refine x_if (fun hin => ?_) (fun hin => ?_)
          · walk_at "sx"
            refine x_newT (by simp) s fun t H2 s => ?_
            walk_at "sx"
            refine x_dpT (kt := PK ((p : Int), (qq : Int))) s (n := 1) rfl (s.at 0 rfl) (by omega) fun H3 s => ?_
            obtain ⟨ks', h1, h2, h3⟩ := hk.put (p := ((p : Int), (qq : Int))) ⟨ip, iq⟩ ((hk.ok _ hin).2.step hdc) (.bl true)
            refine ⟨_, ks', _, rfl, h1, pre.trans h2, fun p' q' k' a1 a2 a3 a4 a5 => ?_, s.drop1⟩
            by_cases hx : p' < p ∨ (p' = p ∧ (q' < qq ∨ (q' = qq ∧ k' < d)))
            · exact h2.subset (dn p' q' k' a1 a2 a3 hx a5)
            · obtain ⟨rfl, rfl⟩ : p' = p ∧ q' = qq := by omega
              exact h3
          · walk_at "sx"
            refine ⟨kvs, ks, _, rfl, hk, pre, fun p' q' k' a1 a2 a3 a4 a5 => ?_, s⟩
            by_cases hx : p' < p ∨ (p' = p ∧ (q' < qq ∨ (q' = qq ∧ k' < d)))
            · exact dn p' q' k' a1 a2 a3 hx a5
            · obtain ⟨rfl, rfl, rfl⟩ : p' = p ∧ q' = qq ∧ k' = d := by omega
              exact absurd (pre.subset a5) hin
        · clear s hk pre dn
          rintro σ' H' ⟨kvs, ks, v7, rfl, hk, pre, dn, s⟩
          rw [xl] at dn
          exact ⟨kvs, ks, _, _, rfl, hk, pre, fun p' q' k' a1 a2 a3 a4 a5 => dn p' q' k' a1 a2 a3 (by omega) a5, s⟩
      · clear s hk pre dn
        rintro σ' H' ⟨kvs, ks, v6, v7, rfl, hk, pre, dn, s⟩
        exact ⟨kvs, ks, _, _, _, rfl, hk, pre, fun p' q' k' a1 a2 a3 a4 a5 => dn p' q' k' a1 a2 a3 (by omega) a5, s⟩
    · clear s hk
      rintro σ' H' ⟨kvs, ks, v3, v6, v7, rfl, hk, pre, dn, s⟩
      have hpl := pre.length_le
      have hd2 : Diag c ks c.rows.length := fun j hj => pre.subset (hd j hj)
      walk_at "sx"
      refine x_lenDT (s.at 0 rfl) ?_
      rw [hk.len]
      walk_at "sx"
      refine x_if (fun he => ?_) (fun he => ?_)
      · walk_at "sx"
        have e : ks0 = ks := pre.eq_of_length (by omega)
        subst e
        exact q fd kvs ks0 _ (found_all g hk hd2 fun p q k hp hq hk h => dn p q k hp hq hk (by omega) h) (s.imp fun B f => (hg B f).2)
      · walk_at "sx"
        exact ⟨kvs, ks, _, _, _, _, _, rfl, hk, hd2, by omega, s⟩
  · clear s hk hd hn0
    rintro σ' H' ⟨kvs, ks0, v3, v4, v5, v6, v7, rfl, hk, hd, hn, s⟩
    have := hk.max
    omega
  · clear s hk hd hn0
    rintro σ' H' ⟨kvs, ks, v3, v4, v5, v6, v7, rfl, hfs, s⟩
    walk_at "sx"
    exact q fd kvs ks _ hfs (s.imp fun B f => (hg B f).2)
/-! ### _law_never: slots 0 columns 1 pairs 2 known 3 pair 4 column -/
/-! ### lists of pairs -/
theorem S.freezeP {F : Hp → Prop} {cs : List (Addr × HO)} {H : Hp} {p : Addr} {a b : Int} (s : S F ((p, .tup [.int a, .int b]) :: cs) H) : S (fun B => PairAt B p (a, b) ∧ F B) cs H := by
  have mF := s.mono
  exact s.freeze fun B f e => ⟨e, f⟩
theorem PlP.get {B : Hp} {qs : List V} {ord : List (Int × Int)} (h : PlP B qs ord) {i : Nat} {v : V} (hv : qs[i]? = some v) : ∃ z p, v = .ref z ∧ ord[i]? = some p ∧ PairAt B z p := by
  have hi : i < ord.length := by rw [← h.1]; exact (List.getElem?_eq_some_iff.mp hv).1
  obtain ⟨z, h1, h2⟩ := h.2 i _ (List.getElem?_eq_getElem hi)
  rw [hv] at h1
  cases h1
  exact ⟨z, _, rfl, List.getElem?_eq_getElem hi, h2⟩
theorem plP_of {B : Hp} {qs : List V} {ord : List (Int × Int)} (hl : qs.length = ord.length) (h : ∀ (i : Nat) v, qs[i]? = some v → ∃ z p, v = .ref z ∧ ord[i]? = some p ∧ PairAt B z p) : PlP B qs ord := by
  refine ⟨hl, fun i p hp => ?_⟩
  have hi : i < qs.length := by rw [hl]; exact (List.getElem?_eq_some_iff.mp hp).1
  obtain ⟨z, p', h1, h2, h3⟩ := h i _ (List.getElem?_eq_getElem hi)
  rw [hp] at h2
  cases h2
  exact ⟨z, by rw [List.getElem?_eq_getElem hi, h1], h3⟩
theorem PlP.app {B : Hp} {qs qs' : List V} {ord ord' : List (Int × Int)} (h : PlP B qs ord) (h' : PlP B qs' ord') : PlP B (qs ++ qs') (ord ++ ord') := by
  refine plP_of (by rw [List.length_append, List.length_append, h.1, h'.1]) fun i v hv => ?_
  by_cases hi : i < qs.length
  · rw [List.getElem?_append_left hi] at hv
    obtain ⟨z, p, h1, h2, h3⟩ := h.get hv
    exact ⟨z, p, h1, by rw [List.getElem?_append_left (by rw [← h.1]; exact hi)]; exact h2, h3⟩
  · rw [List.getElem?_append_right (by omega)] at hv
    obtain ⟨z, p, h1, h2, h3⟩ := h'.get hv
    exact ⟨z, p, h1, by rw [List.getElem?_append_right (by have := h.1; omega), ← h.1]; exact h2, h3⟩
theorem PlP.one {B : Hp} {z : Addr} {p : Int × Int} (h : PairAt B z p) : PlP B [.ref z] [p] := plP_of rfl fun i v hv => by
  cases i with
  | zero => cases hv; exact ⟨z, p, rfl, rfl, h⟩
  | succ i => simp at hv
theorem PlP.takeD {B : Hp} {qs : List V} {ord : List (Int × Int)} (h : PlP B qs ord) (n : Nat) : PlP B (qs.take n) (ord.take n) ∧ PlP B (qs.drop n) (ord.drop n) := by
  refine ⟨plP_of (by rw [List.length_take, List.length_take, h.1]) fun i v hv => ?_, plP_of (by rw [List.length_drop, List.length_drop, h.1]) fun i v hv => ?_⟩
  · have hi := (List.getElem?_eq_some_iff.mp hv).1
    rw [List.length_take] at hi
    rw [List.getElem?_take, if_pos (by omega)] at hv ⊢
    exact h.get hv
  · rw [List.getElem?_drop] at hv ⊢
    exact h.get hv
theorem PlP.ins {B : Hp} {qs : List V} {ord : List (Int × Int)} (h : PlP B qs ord) (n : Nat) {z : Addr} {p : Int × Int} (hz : PairAt B z p) : PlP B (qs.take n ++ [.ref z] ++ qs.drop n) (ord.take n ++ [p] ++ ord.drop n) := ((h.takeD n).1.app (PlP.one hz)).app (h.takeD n).2
theorem shaped_pair (p : Int × Int) : SeqAt.shaped (pairD p) = true := shaped_tupI [p.1, p.2]
theorem eqv_pair (p q : Int × Int) : PyData.eqv (pairD p) (pairD q) = decide (p = q) := by
  obtain ⟨a, b⟩ := p
  obtain ⟨c, d⟩ := q
  have h := eqv_ints [a, b] [c, d]
  have e : PyData.eqv (pairD (a, b)) (pairD (c, d)) = PyData.eqv (.list ([a, b].map PyData.int)) (.list ([c, d].map PyData.int)) := rfl
  rw [e, h]
  by_cases z : a = c ∧ b = d
  · obtain ⟨rfl, rfl⟩ := z
    simp
  · rw [decide_eq_false, decide_eq_false]
    · intro e
      cases e
      exact z ⟨rfl, rfl⟩
    · intro e
      cases e
      exact z ⟨rfl, rfl⟩
/-- papers: lists of pairs, each as it stands -/
def PapB (B : Hp) (xs : List V) (pss : List (List (Int × Int))) : Prop := xs.length = pss.length ∧ ∀ (i : Nat) ps, pss[i]? = some ps → ps.length ≤ 100000 ∧ ∃ l qs, xs[i]? = some (.ref l) ∧ B l = some (.lst qs) ∧ PlP B qs ps
instance {xs : List V} {pss : List (List (Int × Int))} : Mono (fun B => PapB B xs pss) := ⟨fun B B' e h => ⟨h.1, fun i ps hp => let ⟨h0, l, qs, h1, h2, h3⟩ := h.2 i ps hp; ⟨h0, l, qs, h1, e _ _ h2, Mono.up (F := fun B => PlP B qs ps) B B' e h3⟩⟩⟩
theorem PapB.snoc {B : Hp} {xs : List V} {pss : List (List (Int × Int))} (h : PapB B xs pss) {l : Addr} {qs : List V} {ps : List (Int × Int)} (h1 : B l = some (.lst qs)) (h2 : PlP B qs ps) (hl : ps.length ≤ 100000) : PapB B (xs ++ [.ref l]) (pss ++ [ps]) := by
  refine ⟨by rw [List.length_append, List.length_append, h.1]; rfl, fun i q hq => ?_⟩
  by_cases hi : i < pss.length
  · rw [List.getElem?_append_left hi] at hq
    rw [List.getElem?_append_left (by rw [h.1]; exact hi)]
    exact h.2 i q hq
  · have hi2 := (List.getElem?_eq_some_iff.mp hq).1
    rw [List.length_append, List.length_singleton] at hi2
    obtain rfl : i = pss.length := by omega
    rw [List.getElem?_append_right (Nat.le_refl _), Nat.sub_self] at hq
    cases hq
    rw [← h.1, List.getElem?_append_right (Nat.le_refl _), Nat.sub_self]
    exact ⟨hl, l, qs, rfl, h1, h2⟩
theorem canLay_pairs : ∀ ps : List (Int × Int), PyData.canLayAll0 (ps.map pairD) = true
  | [] => rfl
  | p :: ps => by
    have h := canLay_pairs ps
    show (PyData.canLay0 (pairD p) && PyData.canLayAll0 (ps.map pairD)) = true
    rw [h]
    rfl
theorem depth_pairs : ∀ ps : List (Int × Int), PyData.depthAll (ps.map pairD) ≤ 2
  | [] => Nat.zero_le _
  | p :: ps => by
    have h := depth_pairs ps
    show max (PyData.depth (pairD p)) (PyData.depthAll (ps.map pairD)) ≤ 2
    have h2 : PyData.depth (pairD p) ≤ 2 := Nat.le_of_ble_eq_true rfl
    exact Nat.max_le.mpr ⟨h2, h⟩
theorem shaped_pairs (ps : List (Int × Int)) : SeqAt.shaped (.list (ps.map pairD)) = true := by
  have h1 := canLay_pairs ps
  have h2 := depth_pairs ps
  have h3 : PyData.canLay0 (.list (ps.map pairD)) = true := h1
  have h4 : PyData.depth (.list (ps.map pairD)) ≤ 64 := Nat.le_trans (Nat.succ_le_succ h2) (by decide)
  unfold SeqAt.shaped
  rw [h3, decide_eq_true h4]
  rfl
def dblP (ps : List (Int × Int)) : List (Int × Int) := ps.flatMap fun p => [p, (p.2, p.1)]
theorem dblP_mem {ps : List (Int × Int)} {q : Int × Int} : q ∈ dblP ps ↔ q ∈ ps ∨ (q.2, q.1) ∈ ps := by
  unfold dblP
  rw [List.mem_flatMap]
  constructor
  · rintro ⟨p, hp, h⟩
    simp only [List.mem_cons, List.not_mem_nil, or_false] at h
    rcases h with rfl | rfl
    · exact .inl hp
    · exact .inr hp
  · rintro (h | h)
    · exact ⟨q, h, by simp⟩
    · exact ⟨_, h, by simp⟩
theorem dblP_snoc (ps : List (Int × Int)) (p : Int × Int) : dblP (ps ++ [p]) = dblP ps ++ [p] ++ [(p.2, p.1)] := by
  unfold dblP
  rw [List.flatMap_append]
  simp
def sp_law_never (K : PySem.W.Frag) : Sp := fun vs H Q _ => ∃ (F : Hp → Prop) (cs : List (Addr × HO)) (a pa : Addr) (b : Bool) (c : CD) (qs : List V) (ps : List (Int × Int)), vs = [.ref a, .ref pa] ∧ S F cs H ∧ (∀ B, F B → ColsB K B a (colsOf c) ∧ SqB b K B pa qs ∧ PlP B qs ps) ∧ c.good ∧ ps.length < 1000000 ∧
  ∀ H', S F cs H' → Q (.bl (neverB c ps)) H'
def t_law_never (K : PySem.W.Frag) (E : XK) : TS := tSeq (tAsg (tDNewT) (gName 2)) (tSeq (tFor (iSq K (tVar 1)) (gName 3) (tSeq (sDPut (tVar 2) (tVar 3) (tC (.bl true))) (sDPut (tVar 2) (tTup (tCons (tOp (rIx1 K) (tVar 3) (tC (.int 1))) (tCons (tOp (rIx1 K) (tVar 3) (tC (.int 0))) (tNil)))) (tC (.bl true))))) (tSeq (tFor (iSq K (tVar 1)) (gName 3) (tSeq (tIfS (tOr (tTest (tOp rLt1 (tOp (rIx1 K) (tVar 3) (tC (.int 0))) (tC (.int 0)))) (tOr (tTest (tOp rLt1 (tOp (rIx1 K) (tVar 3) (tC (.int 1))) (tC (.int 0)))) (tOr (tTest (tOp rGe1 (tOp (rIx1 K) (tVar 3) (tC (.int 0))) (tCB (rLen1 K) (tCons (tOp (rIx1 K) (tVar 0) (tC (.int 0))) (tNil))))) (tTest (tOp rGe1 (tOp (rIx1 K) (tVar 3) (tC (.int 1))) (tCB (rLen1 K) (tCons (tOp (rIx1 K) (tVar 0) (tC (.int 0))) (tNil)))))))) (tRet (tC (.bl false))) (tNext)) (tSeq (tIfS (tTest (tOp (rEq1 K) (tOp (rIx1 K) (tVar 3) (tC (.int 0))) (tOp (rIx1 K) (tVar 3) (tC (.int 1))))) (tRet (tC (.bl false))) (tNext)) (tFor (iSq K (tVar 0)) (gName 4) (tIfS (tB (tDNotIn (tTup (tCons (tOp (rIx1 K) (tVar 4) (tOp (rIx1 K) (tVar 3) (tC (.int 0)))) (tCons (tOp (rIx1 K) (tVar 4) (tOp (rIx1 K) (tVar 3) (tC (.int 1)))) (tNil)))) (tVar 2))) (tRet (tC (.bl false))) (tNext)))))) (tRet (tOp rGt1 (tCB (rLen1 K) (tCons (tVar 1) (tNil))) (tC (.int 0))))))
theorem pure_law_never {K : PySem.W.Frag} (κ : KF K) (vs : List V) (H : Hp) (Q : VK) (E : XK) (h : sp_law_never K vs H Q E) : t_law_never K E ⟨fun _ H' => Q .non H', Q, fun _ _ => False, fun _ _ => False⟩ (start [("columns" : Str), "pairs", "known", "pair", "column"] vs) H := by
  unfold t_law_never
  obtain ⟨F, cs, a, pa, b, c, qs, ps, rfl, s, hF, g, hpl, q⟩ := h
  refine x_start (σ' := [some _, some _, none, none, none]) ?_ rfl
  have mF0 := s.mono
  have gs := g.s
  have gc := g.c
  have hql := (hF _ s.fact).2.2.1
  obtain ⟨xs, s⟩ := s.colsX fun B f => (hF B f).1
  have xl := dpAll_len s.fact.1.2
  rw [List.length_map, colsOf_len] at xl
  obtain ⟨q0, hq0, hs0⟩ := col_at s (fun B f => f.1.2) (colsOf_get (c := c) (k := 0) (by omega))
  obtain ⟨G, hG⟩ : ∃ G : Hp → Prop, G = fun B => (SqB true K B a xs ∧ DpAll K B xs ((colsOf c).map lstI)) ∧ F B := ⟨_, rfl⟩
  rw [← hG] at s
  have mG := s.mono
  have hg : ∀ B, G B → (SqB true K B a xs ∧ DpAll K B xs ((colsOf c).map lstI)) ∧ F B := fun B h => by rw [hG] at h; exact h
  have hs0 : ∀ B, G B → SqB true K B q0 ((colOf c 0).map V.int) := fun B h => hs0 B (hg B h)
  have hp : ∀ B, G B → SqB b K B pa qs ∧ PlP B qs ps := fun B h => (hF B (hg B h).2).2
  clear hG
  walk_at "sx"
  refine x_dnewT s fun kn H1 s => ?_
  walk_at "sx"
  refine x_forB (hp _ s.fact).1 (fun i σ' H' => ∃ (kvs : List (List L2.Key × V)) (v3 : Option V), σ' = [some (.ref a), some (.ref pa), some (.ref kn), v3, none] ∧ kvs.length ≤ 2 * i ∧ i ≤ ps.length ∧ KnP kvs (dblP (ps.take i)) ∧ S G ((kn, .dT kvs) :: cs) H') ⟨[], _, rfl, Nat.zero_le _, Nat.zero_le _, KnP.nil, s⟩ (fun i σ H h => by obtain ⟨_, _, _, _, _, _, s⟩ := h; exact (hp _ s.fact).1) ?_ ?_
  · clear s
    rintro i v σ' H' hv ⟨kvs, v3, rfl, h1, h2, hk, s⟩
    have hi : i < ps.length := by rw [← hql]; exact (List.getElem?_eq_some_iff.mp hv).1
    have hn : ps[i]? = some ps[i] := List.getElem?_eq_getElem hi
    generalize ps[i] = p at hn
    obtain ⟨z, hz, hpz⟩ := (hp _ s.fact).2.2 i p hn
    rw [hv] at hz
    cases hz
    have hpz : ∀ B, G B → PairAt B z p := fun B h => (hp B h).2.at hn hv
    walk_at "sx"
    refine x_dpT (kt := PK p) s (n := 0) rfl (hpz _ s.fact) (by omega) fun H2 s => ?_
    simp only [List.set_cons_zero] at s
    have l1 := length_putK kvs (PK p) (V.bl true)
    walk_at "sx"
    refine x_ixT (hpz _ s.fact).sq rfl ?_
    walk_at "sx"
    refine x_ixT (hpz _ s.fact).sq rfl ?_
    walk_at "sx"
    refine x_newT (by simp) s fun t H3 s => ?_
    walk_at "sx"
    refine x_dpT (kt := PK (p.2, p.1)) s (n := 1) rfl (s.at 0 rfl) (by omega) fun H4 s => ?_
    have l2 := length_putK (putK kvs (PK p) (V.bl true)) (PK (p.2, p.1)) (V.bl true)
    refine ⟨_, _, rfl, ?_, hi, ?_, s.drop1⟩
    · omega
    · rw [List.take_add_one, hn]
      show KnP _ (dblP (ps.take i ++ [p]))
      rw [dblP_snoc]
      exact (hk.put p _).put (p.2, p.1) _
  clear s
  rintro σ' H' ⟨kvs, v3, rfl, h1, h2, hk, s⟩
  rw [hql, List.take_of_length_le (Nat.le_refl _)] at hk
  have no : ∀ {cs' : List (Addr × HO)} {H'}, ∀ p ∈ ps, ¬ nevOk c ps p = true → S G ((kn, .dT kvs) :: cs) H' → Q (.bl false) H' := fun {_ _} p hp' hn s => by
    have e : neverB c ps = false := by
      rw [Bool.eq_false_iff]
      exact fun z => hn ((neverB_iff.mp z).2 p hp')
    rw [e] at q
    exact q _ (s.drop1.imp fun B f => (hg B f).2)
  walk_at "sx"
  refine x_forB (hp _ s.fact).1 (fun i σ' H' => ∃ (v3 v4 : Option V), σ' = [some (.ref a), some (.ref pa), some (.ref kn), v3, v4] ∧ (∀ (j : Nat) p, j < i → ps[j]? = some p → nevOk c ps p = true) ∧ S G ((kn, .dT kvs) :: cs) H') ⟨_, _, rfl, fun j p h => absurd h (Nat.not_lt_zero j), s⟩ (fun i σ H h => by obtain ⟨_, _, _, _, s⟩ := h; exact (hp _ s.fact).1) ?_ ?_
  · clear s
    rintro i v σ' H' hv ⟨v3, v4, rfl, low, s⟩
    have hi : i < ps.length := by rw [← hql]; exact (List.getElem?_eq_some_iff.mp hv).1
    have hn : ps[i]? = some ps[i] := List.getElem?_eq_getElem hi
    generalize ps[i] = p at hn
    obtain ⟨z, hz, hpz⟩ := (hp _ s.fact).2.2 i p hn
    rw [hv] at hz
    cases hz
    have hpz : ∀ B, G B → PairAt B z p := fun B h => (hp B h).2.at hn hv
    have hpm := mem_of_get hn
    have no : ∀ {H'}, ¬ nevOk c ps p = true → S G ((kn, .dT kvs) :: cs) H' → Q (.bl false) H' := fun {_} hn s => no (cs' := []) p hpm hn s
    walk_at "sx"
    refine x_ixT (hpz _ s.fact).sq rfl ?_
    walk_at "sx"
    refine x_if (fun a1 => ?_) (fun a1 => ?_)
    · walk_at "sx"
      exact no (fun h => by have := (nevOk_iff.mp h).1.1.1.1; omega) s
    walk_at "sx"
    refine x_ixT (hpz _ s.fact).sq rfl ?_
    walk_at "sx"
    refine x_if (fun a2 => ?_) (fun a2 => ?_)
    · walk_at "sx"
      exact no (fun h => by have := (nevOk_iff.mp h).1.1.2.1; omega) s
    walk_at "sx"
    refine x_ixT (hpz _ s.fact).sq rfl ?_
    walk_at "sx"
    refine x_ixL (hg _ s.fact).1.1 (atI_nat (j := 0) hq0) ?_
    walk_at "sx"
    refine x_lenL (.inl (hs0 _ s.fact)) ?_
    rw [List.length_map, colOf_len]
    walk_at "sx"
    refine x_if (fun a3 => ?_) (fun a3 => ?_)
    · walk_at "sx"
      exact no (fun h => by have := (nevOk_iff.mp h).1.1.1.2; omega) s
    walk_at "sx"
    refine x_ixT (hpz _ s.fact).sq rfl ?_
    walk_at "sx"
    refine x_ixL (hg _ s.fact).1.1 (atI_nat (j := 0) hq0) ?_
    walk_at "sx"
    refine x_lenL (.inl (hs0 _ s.fact)) ?_
    rw [List.length_map, colOf_len]
    walk_at "sx"
    refine x_if (fun a4 => ?_) (fun a4 => ?_)
    · walk_at "sx"
      exact no (fun h => by have := (nevOk_iff.mp h).1.1.2.2; omega) s
    walk_at "sx"
    refine x_ixT (hpz _ s.fact).sq rfl ?_
    walk_at "sx"
    refine x_ixT (hpz _ s.fact).sq rfl ?_
    walk_at "sx"
    refine x_if (fun a5 => ?_) (fun a5 => ?_)
    · walk_at "sx"
      exact no (fun h => (nevOk_iff.mp h).1.2 a5) s
    walk_at "sx"
    have i1 : 0 ≤ p.1 ∧ p.1 < (c.rows.length : Int) := by omega
    have i2 : 0 ≤ p.2 ∧ p.2 < (c.rows.length : Int) := by omega
    refine x_forB (hg _ s.fact).1.1 (fun d σ' H' => ∃ (v4 : Option V), σ' = [some (.ref a), some (.ref pa), some (.ref kn), some (.ref z), v4] ∧ (∀ e, e < d → nx2 c p e ∈ dblP ps) ∧ S G ((kn, .dT kvs) :: cs) H') ⟨_, rfl, fun e h => absurd h (Nat.not_lt_zero e), s⟩ (fun i σ H h => by obtain ⟨_, _, _, s⟩ := h; exact (hg _ s.fact).1.1) ?_ ?_
    · clear s
      rintro d v σ' H' hv' ⟨v4, rfl, lowd, s⟩
      have hdc : d < c.cues.toNat := by have := (List.getElem?_eq_some_iff.mp hv').1; omega
      obtain ⟨cq, hcq, hcs⟩ := col_at s (fun B f => (hg B f).1.2) (colsOf_get (c := c) hdc)
      rw [hv'] at hcq
      cases hcq
      walk_at "sx"
      refine x_ixT (hpz _ s.fact).sq rfl ?_
      walk_at "sx"
      refine x_ixL (hcs _ s.fact) (atI_int i1.1 (colOf_at i1)) ?_
      walk_at "sx"
      refine x_ixT (hpz _ s.fact).sq rfl ?_
      walk_at "sx"
      refine x_ixL (hcs _ s.fact) (atI_int i2.1 (colOf_at i2)) ?_
      walk_at "sx"
      refine x_newT (by simp) s fun t H2 s => ?_
      walk_at "sx"
      refine x_diR (kt := PK (nx2 c p d)) (.inl (s.at 1 rfl)) (s.at 0 rfl) ?_
      have s := s.drop1
      rw [if_pos rfl, hk.1]
      walk_at "sx"
      refine x_ifn (fun hm => ?_) (fun hm => ?_)
      · walk_at "sx"
        exact no (fun h => hm (dblP_mem.mpr ((nevOk_iff.mp h).2 d hdc))) s
      · walk_at "sx"
        refine ⟨_, rfl, fun e he => ?_, s⟩
        rcases Nat.lt_or_ge e d with y | y
        · exact lowd e y
        · obtain rfl : e = d := by omega
          exact hm
    · clear s
      rintro σ' H' ⟨v4, rfl, lowd, s⟩
      rw [xl] at lowd
      refine ⟨_, _, rfl, fun j p' hj hj' => ?_, s⟩
      rcases Nat.lt_or_ge j i with y | y
      · exact low j p' y hj'
      · obtain rfl : j = i := by omega
        rw [hn] at hj'
        cases hj'
        exact nevOk_iff.mpr ⟨⟨⟨i1, i2⟩, a5⟩, fun k hk => dblP_mem.mp (lowd k hk)⟩
  clear s
  rintro σ' H' ⟨v3, v4, rfl, low, s⟩
  walk_at "sx"
  refine x_lenL (hp _ s.fact).1.or ?_
  rw [hql]
  walk_at "sx"
  have e : decide ((0 : Int) < ((ps.length : Nat) : Int)) = neverB c ps := by
    rw [Bool.eq_iff_iff, decide_eq_true_iff, neverB_iff]
    constructor
    · intro h
      refine ⟨fun z => by rw [z] at h; exact absurd h (by decide), fun p hp' => ?_⟩
      obtain ⟨j, hj⟩ := List.mem_iff_getElem?.mp hp'
      exact low j p (by rw [hql]; exact (List.getElem?_eq_some_iff.mp hj).1) hj
    · rintro ⟨h, _⟩
      have := List.length_pos_iff.mpr h
      omega
  rw [e]
  exact q _ (s.drop1.imp fun B f => (hg B f).2)
/-! ### _law_ends: slots 0 columns 1 feed 2 places 3 c 4 s -/
def natK (l : List Nat) : List Int := l.map fun n : Nat => (n : Int)
def sp_law_ends (K : PySem.W.Frag) : Sp := fun vs H Q _ => ∃ (F : Hp → Prop) (cs : List (Addr × HO)) (a f : Addr) (b : Bool) (c : CD) (ns : List Int), vs = [.ref a, .ref f] ∧ S F cs H ∧ (∀ B, F B → ColsB K B a (colsOf c)) ∧ (∀ H', F H' → (∀ d ∈ cs, H' d.1 = some d.2) → SqB b K H' f (ns.map V.int)) ∧ c.good ∧ FeedOk c.cues ns ∧ ns.length < 1000000 ∧
  ∀ (l : Addr) (es : List Int) H', (es.length = 1 ↔ resetB c ns = true) → S F ((l, .lst (es.map V.int)) :: cs) H' → Q (.ref l) H'
def t_law_ends (K : PySem.W.Frag) (E : XK) : TS := tSeq (tAsg (tLstRg (tRg1 (tCB (rLen1 K) (tCons (tOp (rIx1 K) (tVar 0) (tC (.int 0))) (tNil))))) (gName 2)) (tSeq (tFor (iSq K (tVar 1)) (gName 3) (tAsg (tLc (iSq K (tVar 2)) (gName 4) (tYes) (tOp (rIx1 K) (tOp (rIx1 K) (tVar 0) (tVar 3)) (tVar 4)) [4]) (gName 2))) (tRet (tLc (iRng1 (tCons (tCB (rLen1 K) (tCons (tOp (rIx1 K) (tVar 0) (tC (.int 0))) (tNil))) (tNil))) (gName 4) (tTest (tOp (rIn1 K) (tVar 4) (tVar 2))) (tVar 4) [4])))
theorem pure_law_ends {K : PySem.W.Frag} (κ : KF K) (vs : List V) (H : Hp) (Q : VK) (E : XK) (h : sp_law_ends K vs H Q E) : t_law_ends K E ⟨fun _ H' => Q .non H', Q, fun _ _ => False, fun _ _ => False⟩ (start [("columns" : Str), "feed", "places", "c", "s"] vs) H := by
  unfold t_law_ends
  obtain ⟨F, cs, a, f, b, c, ns, rfl, s, hF, hf0, g, ok, hnl, q⟩ := h
  refine x_start (σ' := [some _, some _, none, none, none]) ?_ rfl
  have mF0 := s.mono
  have gs := g.s
  have gc := g.c
  obtain ⟨xs, s⟩ := s.colsX hF
  have xl := dpAll_len s.fact.1.2
  rw [List.length_map, colsOf_len] at xl
  obtain ⟨q0, hq0, hs0⟩ := col_at s (fun B f => f.1.2) (colsOf_get (c := c) (k := 0) (by omega))
  obtain ⟨G, hG⟩ : ∃ G : Hp → Prop, G = fun B => (SqB true K B a xs ∧ DpAll K B xs ((colsOf c).map lstI)) ∧ F B := ⟨_, rfl⟩
  rw [← hG] at s
  have mG := s.mono
  have hg : ∀ B, G B → (SqB true K B a xs ∧ DpAll K B xs ((colsOf c).map lstI)) ∧ F B := fun B h => by rw [hG] at h; exact h
  have hs0 : ∀ B, G B → SqB true K B q0 ((colOf c 0).map V.int) := fun B h => hs0 B (hg B h)
  have hf : ∀ {G' : Hp → Prop} {H'}, S G' cs H' → (∀ B, G' B → G B) → SqB b K H' f (ns.map V.int) := fun s k => hf0 _ (hg _ (k _ s.fact)).2 fun d hd => s.cell d hd
  clear hG
  obtain ⟨pi, hpi⟩ : ∃ pi : Nat → List Int, pi = fun i => (List.range c.rows.length).map fun u : Nat => staI c.rows (u : Nat) ns i := ⟨_, rfl⟩
  have pil : ∀ i, (pi i).length = c.rows.length := fun i => by rw [hpi]; simp
  have pig : ∀ i u, u < c.rows.length → (pi i)[u]? = some (staI c.rows (u : Nat) ns i) := fun i u hu => by
    rw [hpi]
    dsimp only
    rw [List.getElem?_map, List.getElem?_range hu]
    rfl
  walk_at "sx"
  refine x_ixL (hg _ s.fact).1.1 (atI_nat (j := 0) hq0) ?_
  walk_at "sx"
  refine x_lenL (.inl (hs0 _ s.fact)) ?_
  rw [List.length_map, colOf_len]
  walk_at "sx"
  refine x_rgL3 (by omega) s fun p0 H1 s => ?_
  have s := s.freezeL (K := K)
  have e0 : rng c.rows.length = pi 0 := by
    rw [hpi]
    rfl
  rw [e0] at s
  walk_at "sx"
  refine x_forB (hf s fun B h => h.2) (fun i σ' H' => ∃ (pa : Addr) (v3 : Option V), σ' = [some (.ref a), some (.ref f), some (.ref pa), v3, none] ∧ S (fun B => SqB true K B pa ((pi i).map V.int) ∧ G B) cs H') ⟨p0, _, rfl, s⟩ (fun i σ H h => by obtain ⟨_, _, _, s⟩ := h; exact hf s fun B h => h.2) ?_ ?_
  · clear s
    rintro i v σ' H' hv ⟨pa, v3, rfl, s⟩
    obtain ⟨k, hk, rfl⟩ := ints_get hv
    have hkr := ok k (mem_of_get hk)
    have hkc : k.toNat < c.cues.toNat := by omega
    walk_at "sx"
    refine x_lcFI (xs := (pi i).map V.int) (b := true) (fun u => some (V.int (staI c.rows (u : Nat) ns (i + 1)))) s (fun B f => f.1) (n := c.rows.length) (by rw [List.length_map, pil]) (by omega) ?_ ?_
    · clear s
      intro D acc u v H4 Put Skip hu put skip s
      obtain ⟨m, hm, rfl⟩ := ints_get hu
      have hul : u < c.rows.length := by have := (List.getElem?_eq_some_iff.mp hm).1; rw [pil] at this; exact this
      rw [pig i u hul] at hm
      cases hm
      have hst := staI_ok g ok (s0 := (u : Nat)) ⟨by omega, by omega⟩ i
      obtain ⟨cq, hcq, hcs⟩ := col_at s (fun B f => (hg B f.2).1.2) (colsOf_get (c := c) hkc)
      walk_at "wipe"
      walk_at "sx"
      refine ⟨rfl, ?_⟩
      walk_at "sx"
      refine x_ixL (hg _ s.fact.2).1.1 (atI_int hkr.1 hcq) ?_
      walk_at "sx"
      refine x_ixL (hcs _ s.fact) (atI_int hst.1 (colOf_at hst)) ?_
      refine put _ _ ?_ s
      rw [staI_succ hk, Int.toNat_of_nonneg hkr.1]
    · clear s
      intro D H5 s
      rw [fm_map] at s
      have e : (List.range c.rows.length).map (fun u : Nat => V.int (staI c.rows (u : Nat) ns (i + 1))) = (pi (i + 1)).map V.int := by
        rw [hpi]
        dsimp only
        rw [List.map_map]
        rfl
      rw [e] at s
      have s := s.freezeL (K := K)
      walk_at "sx"
      exact ⟨D, _, rfl, s.imp fun B f => ⟨f.1, f.2.2⟩⟩
  clear s
  rintro σ' H' ⟨pa, v3, rfl, s⟩
  rw [List.length_map] at s
  walk_at "sx"
  refine x_ixL (hg _ s.fact.2).1.1 (atI_nat (j := 0) hq0) ?_
  walk_at "sx"
  refine x_lenL (.inl (hs0 _ s.fact.2)) ?_
  rw [List.length_map, colOf_len]
  walk_at "sx"
  refine x_lcFR (fun j => if ((j : Nat) : Int) ∈ pi ns.length then some (V.int (j : Nat)) else none) (n := c.rows.length) rfl (by omega) s ?_ ?_
  · clear s
    intro D acc j H4 Put Skip hj put skip s
    walk_at "wipe"
    walk_at "sx"
    refine ⟨rfl, ?_⟩
    walk_at "sx"
    refine x_inI s.fact.1 ?_
    walk_at "sx"
    refine x_if (fun h => ?_) (fun h => ?_)
    · walk_at "sx"
      exact put _ _ (if_pos h) s
    · exact skip _ (if_neg h) s
  · clear s
    intro D H5 s
    obtain ⟨es, hes⟩ : ∃ es : List Nat, es = (List.range c.rows.length).filter fun j => decide (((j : Nat) : Int) ∈ pi ns.length) := ⟨_, rfl⟩
    have e : (List.range c.rows.length).filterMap (fun j : Nat => if ((j : Nat) : Int) ∈ pi ns.length then some (V.int (j : Nat)) else none) = (natK es).map V.int := by
      rw [hes]
      unfold natK
      rw [List.map_map]
      induction List.range c.rows.length with
      | nil => rfl
      | cons j l ih =>
        rw [List.filterMap_cons, List.filter_cons]
        by_cases h : ((j : Nat) : Int) ∈ pi ns.length
        · rw [if_pos h, decide_eq_true h, if_pos rfl, List.map_cons, ih]
          rfl
        · rw [if_neg h, decide_eq_false h, if_neg (by decide), ih]
    rw [e] at s
    refine q D (natK es) _ ?_ (s.imp fun B f => (hg B f.2).2)
    have hmem : ∀ j : Nat, j ∈ es ↔ ∃ u, u < c.rows.length ∧ stE c ns u = j := fun j => by
      rw [hes, List.mem_filter, List.mem_range, decide_eq_true_iff]
      constructor
      · rintro ⟨h1, h2⟩
        obtain ⟨u, hu⟩ := List.mem_iff_getElem?.mp h2
        have hul : u < c.rows.length := by have := (List.getElem?_eq_some_iff.mp hu).1; rw [pil] at this; exact this
        rw [pig _ u hul] at hu
        refine ⟨u, hul, ?_⟩
        unfold stE
        rw [Option.some.inj hu]
        omega
      · rintro ⟨u, hu, rfl⟩
        obtain ⟨h1, h2⟩ := stE_ok g ok hu
        refine ⟨h2, ?_⟩
        rw [← h1]
        exact mem_of_get (pig _ u hu)
    have nd : es.Nodup := by rw [hes]; exact List.nodup_range.filter _
    rw [show (natK es).length = es.length by unfold natK; simp, resetB_iff]
    constructor
    · intro h u hu
      have a := (hmem _).mpr ⟨u, hu, rfl⟩
      have b := (hmem _).mpr ⟨0, by omega, rfl⟩
      match es, h, a, b with
      | [z], _, a, b => rw [List.mem_singleton.mp a, List.mem_singleton.mp b]
    · intro h
      have h1 := nodup_sub_len (l := es) (m := [stE c ns 0]) nd fun k hk => by
        obtain ⟨j, hj, rfl⟩ := (hmem k).mp hk
        rw [h j hj]
        exact List.mem_singleton.mpr rfl
      have h2 := List.length_pos_of_mem ((hmem _).mpr ⟨0, by omega, rfl⟩)
      rw [List.length_singleton] at h1
      omega
/-! ### _law_rows_of_pairs: slots 0 pool 1 columns 2 found 3 states 4 right 5 p 6 q 7 pair 8 some 9 k 10 twice 11 made -/
def sp_law_rows_of_pairs (K : PySem.W.Frag) : Sp := fun vs H Q _ => ∃ (F : Hp → Prop) (cs : List (Addr × HO)) (l a fo : Addr) (p1 p2 p3 p4 : Int) (c : CD) (kvs : List (List L2.Key × V)) (ks : List (Int × Int)), vs = [.ref l, .ref a, .ref fo] ∧ S F ((l, pl p1 p2 p3 p4) :: cs) H ∧ (∀ B, F B → ColsB K B a (colsOf c) ∧ B fo = some (.dT kvs)) ∧ KnP kvs ks ∧ c.good ∧
  ∀ D xs pss x y z u H', S (fun B => (SqB true K B D xs ∧ PapB B xs pss) ∧ F B) ((l, pl x y z u) :: cs) H' → Q (.ref D) H'
def t_law_rows_of_pairs (K : PySem.W.Frag) (E : XK) : TS := tSeq (tAsg (tCB (rLen1 K) (tCons (tOp (rIx1 K) (tVar 1) (tC (.int 0))) (tNil))) (gName 3)) (tSeq (tAsg (tLst (tNil)) (gName 4)) (tSeq (tFor (iRng1 (tCons (tVar 3) (tNil))) (gName 5) (tFor (iRng2 (tCons (tOp (rAdd1 K) (tVar 5) (tC (.int 1))) (tCons (tVar 3) (tNil)))) (gName 6) (tIfS (tB (tDNotIn (tTup (tCons (tVar 5) (tCons (tVar 6) (tNil)))) (tVar 2))) (tSeq (tAsg (tOp (rIx1 K) (tLst (tCons (tTup (tCons (tVar 5) (tCons (tVar 6) (tNil)))) (tCons (tTup (tCons (tVar 6) (tCons (tVar 5) (tNil)))) (tNil)))) (tCall (sp_law_draw K) [] E0 (tCons (tVar 0) (tCons (tC (.int 2)) (tNil))))) (gName 7)) (tSeq (tDrop (tBM K "list" rInsert1 (tVar 4) (tCons (tCall (sp_law_draw K) [] E0 (tCons (tVar 0) (tCons (tOp (rAdd1 K) (tCB (rLen1 K) (tCons (tVar 4) (tNil))) (tC (.int 1))) (tNil)))) (tCons (tVar 7) (tNil))))) (tIfS (tTest (tOp (rEq1 K) (tCall (sp_law_draw K) [] E0 (tCons (tVar 0) (tCons (tC (.int 4)) (tNil)))) (tC (.int 3)))) (tDrop (tBM K "list" rAppend (tVar 4) (tCons (tTup (tCons (tVar 6) (tCons (tVar 5) (tNil)))) (tNil)))) (tNext)))) (tNext)))) (tSeq (tAsg (tLc (iRng1 (tCons (tC (.int 3)) (tNil))) (gName 9) (tYes) (tTup (tCons (tCall (sp_law_draw K) [] E0 (tCons (tVar 0) (tCons (tVar 3) (tNil)))) (tCons (tCall (sp_law_draw K) [] E0 (tCons (tVar 0) (tCons (tVar 3) (tNil)))) (tNil)))) [9]) (gName 8)) (tSeq (tAsg (tCall (sp_law_draw K) [] E0 (tCons (tVar 0) (tCons (tVar 3) (tNil)))) (gName 10)) (tSeq (tAsg (tLst (tCons (tVar 4) (tCons (tLst (tNil)) (tCons (tVar 8) (tCons (tOp (rAdd1 K) (tVar 4) (tVar 8)) (tCons (tOp (rAdd1 K) (tVar 4) (tLst (tCons (tTup (tCons (tVar 10) (tCons (tVar 10) (tNil)))) (tNil)))) (tCons (tOp (rAdd1 K) (tVar 4) (tLst (tCons (tTup (tCons (tUn rNeg1 (tC (.int 1))) (tCons (tVar 10) (tNil)))) (tNil)))) (tCons (tOp (rAdd1 K) (tLst (tCons (tTup (tCons (tVar 3) (tCons (tC (.int 0)) (tNil)))) (tNil))) (tVar 4)) (tNil))))))))) (gName 11)) (C8.tCut (tIfS (tTest (tOp rGt1 (tCB (rLen1 K) (tCons (tVar 4) (tNil))) (tC (.int 0)))) (tSeq (tAsg (tCall (sp_law_draw K) [] E0 (tCons (tVar 0) (tCons (tCB (rLen1 K) (tCons (tVar 4) (tNil))) (tNil)))) (gName 9)) (tSeq (tDrop (tBM K "list" rAppend (tVar 11) (tCons (tLc (iSq K (tVar 4)) (gName 7) (tAnd (tTest (tOp (rNe1 K) (tVar 7) (tOp (rIx1 K) (tVar 4) (tVar 9)))) (tTest (tOp (rNe1 K) (tVar 7) (tTup (tCons (tOp (rIx1 K) (tOp (rIx1 K) (tVar 4) (tVar 9)) (tC (.int 1))) (tCons (tOp (rIx1 K) (tOp (rIx1 K) (tVar 4) (tVar 9)) (tC (.int 0))) (tNil))))))) (tVar 7) [7]) (tNil)))) (tSeq (tDrop (tBM K "list" rAppend (tVar 11) (tCons (tOp (rAdd1 K) (tVar 4) (tLst (tCons (tTup (tCons (tOp rSub1 (tOp (rIx1 K) (tOp (rIx1 K) (tVar 4) (tVar 9)) (tC (.int 0))) (tVar 3)) (tCons (tOp (rIx1 K) (tOp (rIx1 K) (tVar 4) (tVar 9)) (tC (.int 1))) (tNil)))) (tNil)))) (tNil)))) (tDrop (tBM K "list" rAppend (tVar 11) (tCons (tLst (tCons (tOp (rIx1 K) (tVar 4) (tVar 9)) (tNil))) (tNil))))))) (tNext)) (tRet (tVar 11))))))))
theorem pure_law_rows_of_pairs {K : PySem.W.Frag} (κ : KF K) (vs : List V) (H : Hp) (Q : VK) (E : XK) (h : sp_law_rows_of_pairs K vs H Q E) : t_law_rows_of_pairs K E ⟨fun _ H' => Q .non H', Q, fun _ _ => False, fun _ _ => False⟩ (start [("pool" : Str), "columns", "found", "states", "right", "p", "q", "pair", "some", "k", "twice", "made"] vs) H := by
  unfold t_law_rows_of_pairs
  obtain ⟨F, cs, l, a, fo, p1, p2, p3, p4, c, kvs, ks, rfl, s, hF, hk, g, q⟩ := h
  refine x_start (σ' := [some _, some _, some _, none, none, none, none, none, none, none, none, none]) ?_ rfl
  have mF0 := s.mono
  have gs := g.s
  have gc := g.c
  have big : c.rows.length * c.rows.length ≤ 64 * 64 := Nat.mul_le_mul gs.2 gs.2
  obtain ⟨cx, s⟩ := s.colsX fun B f => (hF B f).1
  obtain ⟨q0, hq0, hs0⟩ := col_at s (fun B f => f.1.2) (colsOf_get (c := c) (k := 0) (by omega))
  walk_at "sx"
  refine x_ixL s.fact.1.1 (atI_nat (j := 0) hq0) ?_
  walk_at "sx"
  refine x_lenL (.inl (hs0 _ s.fact)) ?_
  rw [List.length_map, colOf_len]
  have s := s.snd
  walk_at "sx"
  refine x_newL (by simp) s fun rl H1 s => ?_
  walk_at "sx"
  refine x_forR1 (n := c.rows.length) rfl (by omega) (fun i σ' H' => ∃ (rqs : List V) (rps : List (Int × Int)) (v5 v6 v7 : Option V) (x y z u : Int), σ' = [some (.ref l), some (.ref a), some (.ref fo), some (.int c.rows.length), some (.ref rl), v5, v6, v7, none, none, none, none] ∧ rps.length ≤ 2 * (i * c.rows.length) ∧ i ≤ c.rows.length ∧
    S (fun B => PlP B rqs rps ∧ F B) ((rl, .lst rqs) :: (l, pl x y z u) :: cs) H') ⟨[], [], _, _, _, p1, p2, p3, p4, rfl, Nat.zero_le _, Nat.zero_le _, s.imp fun B f => ⟨⟨rfl, fun i p h => by simp at h⟩, f⟩⟩ ?_ ?_
  · clear s
    rintro i σ' H' hi ⟨rqs, rps, v5, v6, v7, x, y, z, u, rfl, hrl, _, s⟩
    have hi2 : (i + 1) * c.rows.length ≤ c.rows.length * c.rows.length := Nat.mul_le_mul_right _ hi
    have hi3 : (i + 1) * c.rows.length = i * c.rows.length + c.rows.length := Nat.succ_mul ..
    walk_at "sx"
    refine x_forR2 (n := c.rows.length - (i + 1)) (by omega) (by omega) (by omega) (fun j σ' H' => ∃ (rqs : List V) (rps : List (Int × Int)) (v6 v7 : Option V) (x y z u : Int), σ' = [some (.ref l), some (.ref a), some (.ref fo), some (.int c.rows.length), some (.ref rl), some (.int (i : Nat)), v6, v7, none, none, none, none] ∧ rps.length ≤ 2 * (i * c.rows.length) + 2 * j ∧
      S (fun B => PlP B rqs rps ∧ F B) ((rl, .lst rqs) :: (l, pl x y z u) :: cs) H') ⟨rqs, rps, _, _, x, y, z, u, rfl, by omega, s⟩ ?_ ?_
    · clear s hrl
      rintro j σ' H' hj ⟨rqs, rps, v6, v7, x, y, z, u, rfl, hrl, s⟩
      have hql := s.fact.1.1
      generalize ((i : Nat) : Int) + 1 + ((j : Nat) : Int) = jj
      walk_at "sx"
      refine x_newT (by simp) s fun t0 H2 s => ?_
      have s := s.freezeP
      walk_at "sx"
      refine x_diR (kt := PK ((i : Int), jj)) (.inl (hF _ s.fact.2.2).2) s.fact.1 ?_
      have s := s.snd
      rw [if_pos rfl, hk.1]
      walk_at "sx"
      refine x_ifn (fun hm => ?_) (fun hm => ?_)
      · walk_at "sx"
        refine x_newT (by simp) s fun t1 H3 s => ?_
        have s := s.freezeP
        walk_at "sx"
        refine x_newT (by simp) s fun t2 H4 s => ?_
        have s := s.freezeP
        walk_at "sx"
        refine x_newL (by simp) s fun ll H5 s => ?_
        walk_at "sx"
        refine ⟨_, _, 2, l, _, _, _, _, _, rfl, s, rfl, by first | decide | omega, b8000 (by first | decide | omega), fun H2 x y z u pk pk0 pk1 s => ?_⟩
        simp only [List.set_cons_zero, List.set_cons_succ] at s
        walk_at "sx"
        obtain ⟨tz, pp, hix, hP⟩ : ∃ (tz : Addr) (pp : Int × Int), atI [V.ref t1, V.ref t2] pk = some (.ref tz) ∧ ∀ B, (PairAt B t2 (jj, (i : Int)) ∧ PairAt B t1 ((i : Int), jj) ∧ PlP B rqs rps ∧ F B) → PairAt B tz pp := by
          have : pk = 0 ∨ pk = 1 := by omega
          rcases this with rfl | rfl
          · exact ⟨t1, _, rfl, fun B h => h.2.1⟩
          · exact ⟨t2, _, rfl, fun B h => h.1⟩
        refine x_ixC s (by walk_at "m") hix ?_
        have s := (s.drop1).imp (G := fun B => PairAt B tz pp ∧ PlP B rqs rps ∧ F B) fun B h => ⟨hP B h, h.2.2⟩
        walk_at "sx"
        refine ⟨_, _, 1, l, _, _, _, _, _, rfl, s, rfl, by first | decide | omega, b8000 (by first | decide | omega), fun H2 x y z u ix ix0 ix1 s => ?_⟩
        simp only [List.set_cons_zero, List.set_cons_succ] at s
        walk_at "sx"
        refine x_insert s (n := 0) rfl (by omega) (by omega) fun H7 s => ?_
        simp only [List.set_cons_zero] at s
        have s := s.imp (G := fun B => PlP B (rqs.take ix.toNat ++ [V.ref tz] ++ rqs.drop ix.toNat) (rps.take ix.toNat ++ [pp] ++ rps.drop ix.toNat) ∧ F B) fun B h => ⟨h.2.1.ins _ h.1, h.2.2⟩
        have hl2 : (rps.take ix.toNat ++ [pp] ++ rps.drop ix.toNat).length = rps.length + 1 := by
          rw [List.length_append, List.length_append, List.length_take, List.length_drop, List.length_singleton]
          omega
        generalize rqs.take ix.toNat ++ [V.ref tz] ++ rqs.drop ix.toNat = rqs2 at s
        generalize rps.take ix.toNat ++ [pp] ++ rps.drop ix.toNat = rps2 at s hl2
        have hql2 := s.fact.1.1
        walk_at "sx"
        refine ⟨_, _, 1, l, _, _, _, _, _, rfl, s, rfl, by first | decide | omega, b8000 (by first | decide | omega), fun H2 x y z u r4 r40 r41 s => ?_⟩
        simp only [List.set_cons_zero, List.set_cons_succ] at s
        walk_at "sx"
        refine x_if (fun _ => ?_) (fun _ => ?_)
        · walk_at "sx"
          refine x_newT (by simp) s fun t3 H8 s => ?_
          have s := s.freezeP
          walk_at "sx"
          refine x_append s (k := 0) rfl (by rw [hql2]; exact big_sz (by omega)) fun H9 s => ?_
          simp only [List.set_cons_zero] at s
          walk_at "sx"
          exact ⟨_, rps2 ++ [(jj, (i : Int))], _, _, x, y, z, u, rfl, by rw [List.length_append, List.length_singleton]; omega, s.imp fun B h => ⟨h.2.1.snoc h.1, h.2.2⟩⟩
        · walk_at "sx"
          exact ⟨rqs2, rps2, _, _, x, y, z, u, rfl, by omega, s⟩
      · walk_at "sx"
        exact ⟨rqs, rps, _, _, x, y, z, u, rfl, by omega, s⟩
    · clear s hrl
      rintro σ' H' ⟨rqs, rps, v6, v7, x, y, z, u, rfl, hrl, s⟩
      exact ⟨rqs, rps, _, _, _, x, y, z, u, rfl, by omega, hi, s⟩
  clear s
  rintro σ' H' ⟨rqs, rps, v5, v6, v7, x, y, z, u, rfl, hrl, _, s⟩
  have hrq := s.fact.1.1
  walk_at "sx"
  refine x_lcR1 (n := 3) rfl (by omega) (fun E j H => ∃ (ys : List V) (ps' : List (Int × Int)) (x y z u : Int), ps'.length = j ∧ S (fun B => PlP B ys ps' ∧ PlP B rqs rps ∧ F B) ((E, .lst ys) :: (rl, .lst rqs) :: (l, pl x y z u) :: cs) H) (fun E hE => ⟨[], [], x, y, z, u, rfl, (s.imp fun B f => ⟨⟨rfl, fun i p h => by simp at h⟩, f⟩).alloc hE⟩) ?_ ?_
  · clear s
    rintro E j H hj ⟨ys, ps', x, y, z, u, hpl', s⟩
    have hyl := s.fact.1.1
    walk_at "wipe"
    walk_at "sx"
    refine ⟨rfl, ?_⟩
    walk_at "sx"
    refine ⟨_, _, 2, l, _, _, _, _, _, rfl, s, rfl, by first | decide | omega, b8000 (by first | decide | omega), fun H2 x y z u d1 d10 d11 s => ?_⟩
    simp only [List.set_cons_zero, List.set_cons_succ] at s
    walk_at "sx"
    refine ⟨_, _, 2, l, _, _, _, _, _, rfl, s, rfl, by first | decide | omega, b8000 (by first | decide | omega), fun H2 x y z u d2 d20 d21 s => ?_⟩
    simp only [List.set_cons_zero, List.set_cons_succ] at s
    walk_at "sx"
    refine x_newT (by simp) s fun pz H4 s => ?_
    have s := s.freezeP
    exact ⟨ys, s.at 0 rfl, by rw [hyl]; exact big_sz (by omega), ys ++ [.ref pz], ps' ++ [(d1, d2)], x, y, z, u, by rw [List.length_append, hpl']; rfl, (s.imp fun B f => ⟨f.2.1.snoc f.1, f.2.2⟩).set 0 rfl _⟩
  clear s
  rintro E H ⟨sqs, sps, x, y, z, u, hsl, s⟩
  have hsq := s.fact.1.1
  have s := s.freezeX.freezeX
  walk_at "sx"
  refine ⟨_, _, 0, l, _, _, _, _, _, rfl, s, rfl, by first | decide | omega, b8000 (by first | decide | omega), fun H2 x y z u tw tw0 tw1 s => ?_⟩
  simp only [List.set_cons_zero, List.set_cons_succ] at s
  walk_at "sx"
  obtain ⟨G, hG⟩ : ∃ G : Hp → Prop, G = fun B => B rl = some (.lst rqs) ∧ B E = some (.lst sqs) ∧ PlP B sqs sps ∧ PlP B rqs rps ∧ F B := ⟨_, rfl⟩
  rw [← hG] at s
  have mG := s.mono
  have hg : ∀ B, G B → (B rl = some (.lst rqs) ∧ PlP B rqs rps) ∧ (B E = some (.lst sqs) ∧ PlP B sqs sps) ∧ F B := fun B h => by
    rw [hG] at h
    exact ⟨⟨h.1, h.2.2.2.1⟩, ⟨h.2.1, h.2.2.1⟩, h.2.2.2.2⟩
  clear hG
  have s := s.imp (G := fun B => PapB B [.ref rl] [rps] ∧ G B) fun B h => ⟨PapB.snoc (xs := []) (pss := []) ⟨rfl, fun i p h => by simp at h⟩ (hg B h).1.1 (hg B h).1.2 (by omega), h⟩
  refine x_newL (by simp) s fun e0 H4 s => ?_
  have s := s.freezeX
  have s := s.imp (G := fun B => PapB B [.ref rl, .ref e0] [rps, []] ∧ G B) fun B h => ⟨h.2.1.snoc (qs := []) (ps := []) h.1 ⟨rfl, fun i p h => by simp at h⟩ (by simp), h.2.2⟩
  have s := s.imp (G := fun B => PapB B [.ref rl, .ref e0, .ref E] [rps, [], sps] ∧ G B) fun B h => ⟨h.1.snoc (hg B h.2).2.1.1 (hg B h.2).2.1.2 (by omega), h.2⟩
  walk_at "sx"
  refine x_catL s (hg _ s.fact.2).1.1 (hg _ s.fact.2).2.1.1 (by omega) fun m1 H5 s => ?_
  have s := s.freezeX
  have s := s.imp (G := fun B => PapB B [.ref rl, .ref e0, .ref E, .ref m1] [rps, [], sps, rps ++ sps] ∧ G B) fun B h => ⟨h.2.1.snoc h.1 ((hg B h.2.2).1.2.app (hg B h.2.2).2.1.2) (by rw [List.length_append]; omega), h.2.2⟩
  walk_at "sx"
  refine x_newT (by simp) s fun t1 H6 s => ?_
  have s := s.freezeP
  walk_at "sx"
  refine x_newL (by simp) s fun lb1 H7 s => ?_
  refine x_catL s (hg _ s.fact.2.2).1.1 (s.at 0 rfl) (by simp; omega) fun m2 H8 s => ?_
  have s := s.freezeX.drop1
  have s := s.imp (G := fun B => PapB B [.ref rl, .ref e0, .ref E, .ref m1, .ref m2] [rps, [], sps, rps ++ sps, rps ++ [(tw, tw)]] ∧ G B) fun B h => ⟨h.2.2.1.snoc h.1 ((hg B h.2.2.2).1.2.app (PlP.one h.2.1)) (by simp; omega), h.2.2.2⟩
  walk_at "sx"
  refine x_newT (by simp) s fun t2 H6 s => ?_
  have s := s.freezeP
  walk_at "sx"
  refine x_newL (by simp) s fun lb2 H7 s => ?_
  refine x_catL s (hg _ s.fact.2.2).1.1 (s.at 0 rfl) (by simp; omega) fun m3 H8 s => ?_
  have s := s.freezeX.drop1
  have s := s.imp (G := fun B => PapB B [.ref rl, .ref e0, .ref E, .ref m1, .ref m2, .ref m3] [rps, [], sps, rps ++ sps, rps ++ [(tw, tw)], rps ++ [(-1, tw)]] ∧ G B) fun B h => ⟨h.2.2.1.snoc h.1 ((hg B h.2.2.2).1.2.app (PlP.one h.2.1)) (by simp; omega), h.2.2.2⟩
  walk_at "sx"
  refine x_newT (by simp) s fun t3 H6 s => ?_
  have s := s.freezeP
  walk_at "sx"
  refine x_newL (by simp) s fun lb3 H7 s => ?_
  walk_at "sx"
  refine x_catL s (s.at 0 rfl) (hg _ s.fact.2.2).1.1 (by simp; omega) fun m4 H8 s => ?_
  have s := s.freezeX.drop1
  have s := s.imp (G := fun B => PapB B [.ref rl, .ref e0, .ref E, .ref m1, .ref m2, .ref m3, .ref m4] [rps, [], sps, rps ++ sps, rps ++ [(tw, tw)], rps ++ [(-1, tw)], [((c.rows.length : Int), 0)] ++ rps] ∧ G B) fun B h => ⟨h.2.2.1.snoc h.1 ((PlP.one h.2.1).app (hg B h.2.2.2).1.2) (by simp; omega), h.2.2.2⟩
  walk_at "sx"
  refine x_newL (by simp) s fun D H9 s => ?_
  obtain ⟨pss, epss⟩ : ∃ pss, pss = [rps, [], sps, rps ++ sps, rps ++ [(tw, tw)], rps ++ [(-1, tw)], [((c.rows.length : Int), 0)] ++ rps] := ⟨_, rfl⟩
  rw [← epss] at s
  have hpl : pss.length = 7 := by rw [epss]; rfl
  clear epss
  generalize [V.ref rl, .ref e0, .ref E, .ref m1, .ref m2, .ref m3, .ref m4] = xs at s
  walk_at "sx"
  refine x_cut (fun σ' H' => ∃ (xs : List V) (pss : List (List (Int × Int))) (v7 v9 : Option V) (x y z u : Int), σ' = [some (.ref l), some (.ref a), some (.ref fo), some (.int c.rows.length), some (.ref rl), v5, v6, v7, some (.ref E), v9, some (.int tw), some (.ref D)] ∧
    S (fun B => PapB B xs pss ∧ G B) ((D, .lst xs) :: (l, pl x y z u) :: cs) H') ?_ ?_
  · walk_at "sx"
    refine x_lenL (.inl (sq_l (hg _ s.fact.2).1.1)) ?_
    rw [hrq]
    walk_at "sx"
    refine x_if (fun h0 => ?_) (fun h0 => ?_)
    · walk_at "sx"
      refine x_lenL (.inl (sq_l (hg _ s.fact.2).1.1)) ?_
      rw [hrq]
      walk_at "sx"
      refine ⟨_, _, 1, l, _, _, _, _, _, rfl, s, rfl, by first | decide | omega, b8000 (by first | decide | omega), fun H2 x y z u kk kk0 kk1 s => ?_⟩
      simp only [List.set_cons_zero, List.set_cons_succ] at s
      walk_at "sx"
      obtain ⟨gz, gp, hgz, hgn, _⟩ := (hg _ s.fact.2).1.2.get (List.getElem?_eq_getElem (show kk.toNat < rqs.length by omega))
      have hgx : rqs[kk.toNat]? = some (.ref gz) := by rw [← hgz]; exact List.getElem?_eq_getElem _
      have hgone : ∀ B, G B → PairAt B gz gp := fun B h => (hg B h).1.2.at hgn hgx
      have dpp : ∀ {H : Hp} {y : Addr} {r : Int × Int}, PairAt H y r → Dp K H (.ref y) (pairD r) := fun h => .tup h.sq (.cons (.int _) (.cons (.int _) .nil))
      refine x_lcB (b := true) (sq_l (hg _ s.fact.2).1.1) (fun C i H => ∃ (ys : List V) (ps' : List (Int × Int)), ps'.length ≤ i ∧ i ≤ rps.length ∧ S (fun B => PlP B ys ps' ∧ PapB B xs pss ∧ G B) ((C, .lst ys) :: (D, .lst xs) :: (l, pl x y z u) :: cs) H) (fun C hC => ⟨[], [], Nat.le_refl _, Nat.zero_le _, (s.imp fun B f => ⟨⟨rfl, fun i p h => by simp at h⟩, f⟩).alloc hC⟩) (fun C i H h => by obtain ⟨_, _, _, _, s⟩ := h; exact sq_l (hg _ s.fact.2.2).1.1) ?_ ?_
      · clear s
        rintro C i v H hx ⟨ys, ps', h1, h2, s⟩
        obtain ⟨w, p', rfl, hn, hpw⟩ := (hg _ s.fact.2.2).1.2.get hx
        have hi := (List.getElem?_eq_some_iff.mp hn).1
        have key : ∀ B, G B → PairAt B w p' := fun B h => (hg B h).1.2.at hn hx
        have hyl := s.fact.1.1
        walk_at "wipe"
        walk_at "sx"
        refine ⟨rfl, ?_⟩
        walk_at "sx"
        refine x_ixL (sq_l (hg _ s.fact.2.2).1.1) (atI_int kk0 hgx) ?_
        refine x_neD (dpp hpw) (dpp (hgone _ s.fact.2.2)) (shaped_pair _) (shaped_pair _) ?_
        walk_at "sx"
        refine x_ifb (fun _ => ?_) (fun _ => ?_)
        · walk_at "sx"
          refine x_ixL (sq_l (hg _ s.fact.2.2).1.1) (atI_int kk0 hgx) ?_
          walk_at "sx"
          refine x_ixT (hgone _ s.fact.2.2).sq rfl ?_
          walk_at "sx"
          refine x_ixL (sq_l (hg _ s.fact.2.2).1.1) (atI_int kk0 hgx) ?_
          walk_at "sx"
          refine x_ixT (hgone _ s.fact.2.2).sq rfl ?_
          walk_at "sx"
          refine x_newT (by simp) s fun tn H4 s => ?_
          have s := s.freezeP
          refine x_neD (dpp (key _ s.fact.2.2.2)) (dpp s.fact.1) (shaped_pair _) (shaped_pair _) ?_
          have s := s.snd
          walk_at "sx"
          refine x_ifb (fun _ => ?_) (fun _ => ?_)
          · walk_at "sx"
            exact ⟨ys, s.at 0 rfl, by rw [hyl]; exact big_sz (by omega), ys ++ [.ref w], ps' ++ [p'], by rw [List.length_append, List.length_singleton]; omega, hi, (s.imp fun B f => ⟨f.1.snoc (key B f.2.2), f.2⟩).set 0 rfl _⟩
          · exact ⟨ys, ps', by omega, hi, s⟩
        · exact ⟨ys, ps', by omega, hi, s⟩
      clear s
      rintro m H ⟨mq, mp, h1, h2, s⟩
      rw [hrq] at h1
      walk_at "sx"
      have s := s.freezeX
      walk_at "sx"
      have hxl := s.fact.2.2.1.1
      refine x_append s (k := 0) rfl (by rw [hxl]; exact big_sz (by omega)) fun H9 s => ?_
      simp only [List.set_cons_zero] at s
      have s := s.imp (G := fun B => PapB B (xs ++ [.ref m]) (pss ++ [mp]) ∧ G B) fun B f => ⟨f.2.2.1.snoc f.1 f.2.1 (by omega), f.2.2.2⟩
      have hpl : (pss ++ [mp]).length = 8 := by rw [List.length_append, hpl]; rfl
      generalize pss ++ [mp] = pss at s hpl
      generalize xs ++ [.ref m] = xs at s
      walk_at "sx"
      refine x_ixL (sq_l (hg _ s.fact.2).1.1) (atI_int kk0 hgx) ?_
      walk_at "sx"
      refine x_ixT (hgone _ s.fact.2).sq rfl ?_
      walk_at "sx"
      refine x_ixL (sq_l (hg _ s.fact.2).1.1) (atI_int kk0 hgx) ?_
      walk_at "sx"
      refine x_ixT (hgone _ s.fact.2).sq rfl ?_
      walk_at "sx"
      refine x_newT (by simp) s fun t4 H6 s => ?_
      have s := s.freezeP
      walk_at "sx"
      refine x_newL (by simp) s fun lb4 H7 s => ?_
      refine x_catL s (hg _ s.fact.2.2).1.1 (s.at 0 rfl) (by simp; omega) fun m H8 s => ?_
      have s := s.sub (cs' := (m, _) :: (D, .lst xs) :: (l, pl x y z u) :: cs) ((List.sublist_cons_self _ _).cons₂ _)
      obtain ⟨mq, hmq⟩ : ∃ mq, mq = rqs ++ [V.ref t4] := ⟨_, rfl⟩
      rw [← hmq] at s
      obtain ⟨mp, s, hmp⟩ : ∃ mp, S (fun B => PlP B mq mp ∧ PapB B xs pss ∧ G B) ((m, .lst mq) :: (D, .lst xs) :: (l, pl x y z u) :: cs) H8 ∧ mp.length = rps.length + 1 := ⟨_, s.imp fun B f => ⟨by rw [hmq]; exact (hg B f.2.2).1.2.app (PlP.one f.1), f.2⟩, by simp⟩
      have s := s.freezeX
      walk_at "sx"
      have hxl := s.fact.2.2.1.1
      refine x_append s (k := 0) rfl (by rw [hxl]; exact big_sz (by omega)) fun H9 s => ?_
      simp only [List.set_cons_zero] at s
      have s := s.imp (G := fun B => PapB B (xs ++ [.ref m]) (pss ++ [mp]) ∧ G B) fun B f => ⟨f.2.2.1.snoc f.1 f.2.1 (by omega), f.2.2.2⟩
      have hpl : (pss ++ [mp]).length = 9 := by rw [List.length_append, hpl]; rfl
      generalize pss ++ [mp] = pss at s hpl
      generalize xs ++ [.ref m] = xs at s
      walk_at "sx"
      refine x_ixL (sq_l (hg _ s.fact.2).1.1) (atI_int kk0 hgx) ?_
      walk_at "sx"
      refine x_newL (by simp) s fun m H7 s => ?_
      obtain ⟨mq, hmq⟩ : ∃ mq, mq = [V.ref gz] := ⟨_, rfl⟩
      rw [← hmq] at s
      obtain ⟨mp, s, hmp⟩ : ∃ mp, S (fun B => PlP B mq mp ∧ PapB B xs pss ∧ G B) ((m, .lst mq) :: (D, .lst xs) :: (l, pl x y z u) :: cs) H7 ∧ mp.length = 1 := ⟨_, s.imp fun B f => ⟨by rw [hmq]; exact PlP.one (hgone B f.2), f⟩, rfl⟩
      have s := s.freezeX
      walk_at "sx"
      have hxl := s.fact.2.2.1.1
      refine x_append s (k := 0) rfl (by rw [hxl]; exact big_sz (by omega)) fun H9 s => ?_
      simp only [List.set_cons_zero] at s
      have s := s.imp (G := fun B => PapB B (xs ++ [.ref m]) (pss ++ [mp]) ∧ G B) fun B f => ⟨f.2.2.1.snoc f.1 f.2.1 (by omega), f.2.2.2⟩
      have hpl : (pss ++ [mp]).length = 10 := by rw [List.length_append, hpl]; rfl
      generalize pss ++ [mp] = pss at s hpl
      generalize xs ++ [.ref m] = xs at s
      walk_at "sx"
      exact ⟨xs, pss, _, _, x, y, z, u, rfl, s⟩
    · walk_at "sx"
      exact ⟨xs, pss, _, _, x, y, z, u, rfl, s⟩
  clear s hpl
  rintro σ' H' ⟨xs, pss, v7, v9, x, y, z, u, rfl, s⟩
  walk_at "sx"
  have s := s.freezeL (K := K)
  exact q D xs pss x y z u _ (s.imp fun B f => ⟨⟨f.1, f.2.1⟩, (hg B f.2.2).2.2⟩)
/-! ### law: slots 0 script 1 pool 2 cues 3 replies 4 columns 5 states 6 rows 7 control 8 found 9 told 10 resets 11 pair 12 pairs 13 due 14 given 15 k 16 feed 17 j 18 at 19 again -/
/-- a conjunction that is false -/
theorem x_andJ0 {c B : Bool} {tu : TT} {σ : L2.St} {H : Hp} {R : Bool → Hp → Prop} (hb : c = true → ∀ R : Bool → Hp → Prop, R B H → tu σ H R) (hB : c = true → B = false) (q : R false H) : if c = true then tu σ H R else R false H := by
  cases c
  · exact q
  · have := hb rfl R (by rw [hB rfl]; exact q)
    exact this
theorem bad_ins {cues : Int} {f : List Int} (ok : FeedOk cues f) {i : Nat} (hi : i ≤ f.length) {n0 : Int} (hb : ¬ (0 ≤ n0 ∧ n0 < cues)) (r : List Int) : BadAt cues (f.take i ++ [n0] ++ f.drop i ++ r) i := by
  have hl : (f.take i).length = i := by rw [List.length_take]; omega
  refine ⟨⟨n0, ?_, hb⟩, fun j hj n hn => ?_⟩
  · rw [List.append_assoc, List.append_assoc, List.getElem?_append_right (by omega), hl, Nat.sub_self]
    rfl
  · rw [List.append_assoc, List.append_assoc, List.getElem?_append_left (by omega)] at hn
    exact ok n (List.mem_of_mem_take (mem_of_get hn))
theorem ins_ints (f : List Int) (i : Nat) (n : Int) : (f.map V.int).take i ++ [V.int n] ++ (f.map V.int).drop i = (f.take i ++ [n] ++ f.drop i).map V.int := by
  rw [List.map_append, List.map_append, List.map_take, List.map_drop]
  rfl
theorem fit_feed {n : Int} : Fit 4 (.tuple [.str "feed", .int n]) := ⟨by simp, fun d hd => by
  simp only [List.mem_cons, List.not_mem_nil, or_false] at hd
  rcases hd with rfl | rfl <;> trivial⟩
def RowsN (cues replies : Int) (rows : List (List (Int × Int))) : Prop := (1 ≤ rows.length ∧ rows.length ≤ 64) ∧ ∀ row ∈ rows, RowOk cues replies rows.length row
theorem rowsN_good {cues replies st : Int} {rows : List (List (Int × Int))} (h : RowsN cues replies rows) (hc : 1 ≤ cues ∧ cues ≤ 16) (hr : 1 ≤ replies ∧ replies ≤ 256) (hs : 0 ≤ st ∧ st < rows.length) : GoodC cues replies rows st := ⟨hc, hr, h.1, hs, h.2⟩
theorem rowsN_of {cues replies n : Int} {rows : List (List (Int × Int))} (hn : 1 ≤ n ∧ n ≤ 64) (hl : (rows.length : Int) = n) (h : ∀ row ∈ rows, RowOk cues replies n row) : RowsN cues replies rows := ⟨by omega, fun row hr => by rw [hl]; exact h row hr⟩
theorem goodN {cues replies st : Int} {rows : List (List (Int × Int))} (g : GoodC cues replies rows st) : RowsN cues replies rows := ⟨g.s, g.row⟩
def RV (c : CD) : Option (List Nat) → List (Int × Int) → Prop
  | some f, _ => (∀ k ∈ f, k < c.cues.toNat) ∧ resetB c (fI f) = true ∧ 2 * f.length ≤ (c.rows.length - 1) * (c.rows.length * (c.rows.length - 1))
  | none, ps => NevS c ps
def rvW : Option (List Nat) → Str
  | some _ => "resets"
  | none => "never"
def rvF (K : PySem.W.Frag) (B : Hp) (w : Addr) (qs : List V) : Option (List Nat) → List (Int × Int) → Prop
  | some f, _ => SqB false K B w ((fI f).map V.int)
  | none, ps => SqB false K B w qs ∧ PlP B qs ps
instance {K : PySem.W.Frag} {w : Addr} {qs : List V} {o : Option (List Nat)} {ps : List (Int × Int)} : Mono (fun B => rvF K B w qs o ps) := ⟨fun B B' e h => by
  match o, h with
  | some f, h => exact Mono.up (F := fun B => SqB false K B w ((fI f).map V.int)) B B' e h
  | none, h => exact Mono.up (F := fun B => SqB false K B w qs ∧ PlP B qs ps) B B' e h⟩
theorem x_reset {K : PySem.W.Frag} {F : Hp → Prop} {cs : List (Addr × HO)} {H : Hp} {Q : VK} {E : XK} {x : Addr} {c : CD} (s : S F cs H) (hF : ∀ B, F B → Ctl K B x c) (g : c.good) (h64 : c.rows.length < 64)
    (q : ∀ t w qs o ps H', RV c o ps → S (fun B => (SqB false K B t [.str (rvW o), .ref w] ∧ rvF K B w qs o ps) ∧ F B) cs H' → Q (.ref t) H') : sp_reset_verdict K [.ref x] H Q E := by
  have mF := s.mono
  exact ⟨F, cs, x, c, rfl, s, hF, g, h64, fun t w f H' h1 h2 h3 s => q t w [] (some f) [] H' ⟨h1, h2, h3⟩ (s.imp fun B h => ⟨⟨h.1, h.2.1⟩, h.2.2⟩), fun t w qs ps H' hN s => q t w qs none ps H' hN (s.imp fun B h => ⟨⟨h.1, h.2.1⟩, h.2.2⟩)⟩
def AllM (c : CD) : Prop := ∀ p, inP c p → MergP c p
theorem reset_all {c : CD} (g : c.good) {ns : List Int} (ok : FeedOk c.cues ns) (h : resetB c ns = true) : AllM c := by
  obtain ⟨f, rfl, hf⟩ := fI_of ok
  intro p hp
  refine ⟨f, hf, ?_⟩
  have key : ∀ i : Int, (0 ≤ i ∧ i < c.rows.length) → runB (nxC c) i f = ((stE c (fI f) 0 : Nat) : Int) := fun i hi => by
    have e : i = ((i.toNat : Nat) : Int) := by omega
    rw [← sta_run, e, ← fI_len, (stE_ok g ok (show i.toNat < c.rows.length by omega)).1, resetB_iff.mp h _ (show i.toNat < c.rows.length by omega)]
  rw [key _ hp.1, key _ hp.2]
theorem never_not {c : CD} (g : c.good) {ps : List (Int × Int)} (h : neverB c ps = true) : ¬ AllM c := fun hA => by
  have h1 := neverB_iff.mp h
  match ps, h1 with
  | p :: ps, h1 =>
    have hp := (nevOk_iff.mp (h1.2 p (List.mem_cons_self ..))).1.1
    obtain ⟨w, w1, w2⟩ := hA p hp
    exact never_run g h w p w1 (List.mem_map.mpr ⟨p, List.mem_cons_self .., rfl⟩) w2
  | [], h1 => exact h1.1 rfl
theorem rv_all {c : CD} (g : c.good) {o : Option (List Nat)} {ps : List (Int × Int)} (h : RV c o ps) : o.isSome = true ↔ AllM c := by
  match o, h with
  | some f, h => exact ⟨fun _ => reset_all g (fI_ok h.1) h.2.1, fun _ => rfl⟩
  | none, h => exact ⟨fun z => (by cases z), fun z => absurd z (never_not g (nevS_never h))⟩
theorem rv_word {o o' : Option (List Nat)} (h : o.isSome = o'.isSome) : rvW o = rvW o' := by
  cases o <;> cases o' <;> first | rfl | cases h
theorem found_full {c : CD} {kvs : List (List L2.Key × V)} {ks : List (Int × Int)} (h : FoundS c kvs ks) : kvs.length = c.rows.length * c.rows.length ↔ AllM c := by
  rw [h.1.len]
  constructor
  · intro hl p hp
    by_cases hin : p ∈ ks
    · exact (h.1.ok p hin).2
    · have := nodup_pair (n := c.rows.length) (m := c.rows.length) (l := ks ++ [p]) (by
        rw [List.nodup_append]
        exact ⟨h.1.nd, by simp, fun a ha b hb => by cases List.mem_singleton.mp hb; exact fun z => hin (z ▸ ha)⟩) fun q hq => by
        rcases List.mem_append.mp hq with z | z
        · exact (h.1.ok q z).1
        · cases List.mem_singleton.mp z
          exact hp
      rw [List.length_append, List.length_singleton] at this
      omega
  · intro hA
    have h1 := h.1.max
    have h2 := nodup_sub_len (l := (List.range (c.rows.length * c.rows.length)).map fun t : Nat => (((t / c.rows.length : Nat) : Int), ((t % c.rows.length : Nat) : Int))) (m := ks) (by
      refine List.pairwise_map.mpr (List.nodup_range.imp fun {a b} hab e => hab ?_)
      have e1 := Int.ofNat.inj (Prod.mk.inj e).1
      have e2 := Int.ofNat.inj (Prod.mk.inj e).2
      rw [← Nat.div_add_mod a c.rows.length, ← Nat.div_add_mod b c.rows.length, e1, e2]) fun x hx => by
      obtain ⟨t, ht, rfl⟩ := List.mem_map.mp hx
      have ht := List.mem_range.mp ht
      have h0 : 0 < c.rows.length := Nat.pos_of_ne_zero fun z => by rw [z] at ht; omega
      have a1 : t / c.rows.length < c.rows.length := Nat.div_lt_of_lt_mul ht
      have a2 : t % c.rows.length < c.rows.length := Nat.mod_lt _ h0
      have hp : inP c (((t / c.rows.length : Nat) : Int), ((t % c.rows.length : Nat) : Int)) := ⟨⟨Int.natCast_nonneg _, Int.ofNat_lt.mpr a1⟩, Int.natCast_nonneg _, Int.ofNat_lt.mpr a2⟩
      exact h.2 _ hp (hA _ hp)
    rw [List.length_map, List.length_range] at h2
    omega
theorem all_same {c c' : CD} (g : c.good) (h1 : c'.rows.length = c.rows.length) (h2 : c'.cues = c.cues) (h : colsOf c' = colsOf c) : AllM c' ↔ AllM c := by
  have nx : ∀ (i : Int) (k : Nat), (0 ≤ i ∧ i < c.rows.length) → k < c.cues.toNat → nextI c'.rows i (k : Nat) = nextI c.rows i (k : Nat) := fun i k hi hk => by
    have a := colsOf_get (c := c) hk
    have b := colsOf_get (c := c') (k := k) (by rw [h2]; exact hk)
    rw [h, a] at b
    have e := Option.some.inj b
    have a2 := colOf_at (c := c) (k := k) hi
    have b2 := colOf_at (c := c') (k := k) (i := i) (by rw [h1]; exact hi)
    rw [← e, a2] at b2
    exact (V.int.inj (Option.some.inj b2)).symm
  have run : ∀ (w : List Nat) (i : Int), (∀ k ∈ w, k < c.cues.toNat) → (0 ≤ i ∧ i < c.rows.length) → runB (nxC c') i w = runB (nxC c) i w := fun w => by
    induction w with
    | nil => exact fun _ _ _ => rfl
    | cons k w ih =>
      intro i hw hi
      have hk := hw k (List.mem_cons_self ..)
      show runB (nxC c') (nextI c'.rows i (k : Nat)) w = runB (nxC c) (nextI c.rows i (k : Nat)) w
      rw [nx i k hi hk]
      exact ih _ (fun d hd => hw d (List.mem_cons_of_mem _ hd)) (nxI_in g hi hk)
  have ip : ∀ p, inP c' p ↔ inP c p := fun p => by unfold inP; rw [h1]
  constructor
  · intro hA p hp
    obtain ⟨w, w1, w2⟩ := hA p ((ip p).mpr hp)
    rw [h2] at w1
    exact ⟨w, w1, by rw [← run w _ w1 hp.1, ← run w _ w1 hp.2]; exact w2⟩
  · intro hA p hp
    have hp := (ip p).mp hp
    obtain ⟨w, w1, w2⟩ := hA p hp
    exact ⟨w, by rw [h2]; exact w1, by rw [run w _ w1 hp.1, run w _ w1 hp.2]; exact w2⟩
theorem bound_ok {n len : Nat} (h0 : 1 ≤ n) (h : 2 * len ≤ (n - 1) * (n * (n - 1))) : ¬ ((((n : Nat) : Int) - 1) * ((n : Nat) : Int) * (((n : Nat) : Int) - 1)) / 2 < ((len : Nat) : Int) := by
  have e : ((n : Nat) : Int) - 1 = ((n - 1 : Nat) : Int) := by omega
  rw [e, ← Int.natCast_mul, ← Int.natCast_mul, Nat.mul_assoc]
  have : ((len : Nat) : Int) ≤ (((n - 1) * (n * (n - 1)) : Nat) : Int) / 2 := Int.le_ediv_of_mul_le (by decide) (by omega)
  omega
theorem S.pap {F : Hp → Prop} {cs : List (Addr × HO)} {H : Hp} {xs : List V} {pss : List (List (Int × Int))} (s : S F cs H) (hF : ∀ B, F B → PapB B xs pss) {i : Nat} {v : V} (hv : xs[i]? = some v) : ∃ l qs ps, v = .ref l ∧ ps.length ≤ 100000 ∧ S (fun B => (B l = some (.lst qs) ∧ PlP B qs ps) ∧ F B) cs H := by
  have mF := s.mono
  have hi : i < pss.length := by rw [← (hF _ s.fact).1]; exact (List.getElem?_eq_some_iff.mp hv).1
  have hp : pss[i]? = some pss[i] := List.getElem?_eq_getElem hi
  generalize pss[i] = ps at hp
  obtain ⟨h0, l, _, h1, _, _⟩ := (hF _ s.fact).2 i ps hp
  rw [hv] at h1
  cases h1
  obtain ⟨qs, s⟩ := (s.imp (G := fun B => ∃ qs, (B l = some (.lst qs) ∧ PlP B qs ps) ∧ F B) fun B f => by
    obtain ⟨_, l', qs, h1, h2, h3⟩ := (hF B f).2 i ps hp
    rw [hv] at h1
    cases h1
    exact ⟨qs, ⟨h2, h3⟩, f⟩).exE
  exact ⟨l, qs, ps, rfl, h0, s⟩
def F79 (K : PySem.W.Frag) (ns : List Int) (a x1 cl fo t w : Addr) (c : CD) (kvs : List (List L2.Key × V)) (o : Option (List Nat)) (qs : List V) (ps : List (Int × Int)) (B : Hp) : Prop := SqL K B a (ns.map V.int) ∧ Ctl K B x1 c ∧ ColsB K B cl (colsOf c) ∧ B fo = some (.dT kvs) ∧ SqB false K B t [.str (rvW o), .ref w] ∧ rvF K B w qs o ps
instance {K : PySem.W.Frag} {ns : List Int} {a x1 cl fo t w : Addr} {c : CD} {kvs : List (List L2.Key × V)} {o : Option (List Nat)} {qs : List V} {ps : List (Int × Int)} : Mono (F79 K ns a x1 cl fo t w c kvs o qs ps) := by unfold F79; infer_instance
theorem noTup_pl {l : Addr} {a b c d : Int} : NoTup [(l, pl a b c d)] := fun e he xs z => by
  cases List.mem_singleton.mp he
  cases z
def sp_law (K : PySem.W.Frag) : Sp := fun vs H Q _ => ∃ (a : Addr) (ns : List Int), vs = [.ref a] ∧ SqL K H a (ns.map V.int) ∧ ns.length ≤ 63 ∧ ∀ H', Q (.bl true) H'
def t_law (K : PySem.W.Frag) (E : XK) : TS := tSeq (tAsg (tCall (sp_law_pool K) [] E0 (tCons (tVar 0) (tCons (tC (.int 0)) (tNil)))) (gName 1)) (tSeq (tAsg (tOp (rAdd1 K) (tC (.int 1)) (tCall (sp_law_draw K) [] E0 (tCons (tVar 1) (tCons (tC (.int 3)) (tNil))))) (gName 2)) (tSeq (tAsg (tOp (rAdd1 K) (tC (.int 1)) (tCall (sp_law_draw K) [] E0 (tCons (tVar 1) (tCons (tC (.int 2)) (tNil))))) (gName 3)) (C8.tCut (tIfS (tTest (tOp (rEq1 K) (tCall (sp_law_draw K) [] E0 (tCons (tVar 1) (tCons (tC (.int 16)) (tNil)))) (tC (.int 14)))) (tAsg (tOp (rAdd1 K) (tC (.int 5)) (tCall (sp_law_draw K) [] E0 (tCons (tVar 1) (tCons (tC (.int 12)) (tNil))))) (gName 2)) (tNext)) (tSeq (tAsg (tCall (sp_law_nexts K) [] E0 (tCons (tVar 0) (tCons (tVar 1) (tCons (tVar 2) (tCons (tOp (rAdd1 K) (tC (.int 1)) (tCall (sp_law_draw K) [] E0 (tCons (tVar 1) (tCons (tC (.int 6)) (tNil))))) (tNil)))))) (gName 4)) (C8.tCut (tIfS (tTest (tOp (rEq1 K) (tCall (sp_law_draw K) [] E0 (tCons (tVar 1) (tCons (tC (.int 8)) (tNil)))) (tC (.int 7)))) (tSeq (tAsg (tC (.int 2)) (gName 2)) (tSeq (tAsg (tCall (sp_law_turning K) [] E0 (tCons (tOp (rAdd1 K) (tC (.int 2)) (tCall (sp_law_draw K) [] E0 (tCons (tVar 1) (tCons (tC (.int 8)) (tNil))))) (tNil))) (gName 4)) (tIfS (tTest (tOp (rEq1 K) (tCall (sp_law_draw K) [] E0 (tCons (tVar 1) (tCons (tC (.int 8)) (tNil)))) (tC (.int 7)))) (tAsg (tCall (sp_law_turning K) [] E0 (tCons (tOp (rAdd1 K) (tC (.int 10)) (tCall (sp_law_draw K) [] E0 (tCons (tVar 1) (tCons (tC (.int 9)) (tNil))))) (tNil))) (gName 4)) (tNext)))) (tNext)) (tSeq (tAsg (tCB (rLen1 K) (tCons (tOp (rIx1 K) (tVar 4) (tC (.int 0))) (tNil))) (gName 5)) (tSeq (tAsg (tCall (sp_law_made K) [] E0 (tCons (tVar 4) (tCons (tVar 1) (tCons (tVar 3) (tNil))))) (gName 6)) (tSeq (tAsg (tMakeK (He.ga K "Control") 3 1 (sp_Control__init K) g_kb_Control__init_3_start E0 (tCons (tVar 2) (tCons (tVar 3) (tCons (tCB (rList1 K) (tCons (tVar 6) (tNil))) (tNil)))) (tCons (tCall (sp_law_draw K) [] E0 (tCons (tVar 1) (tCons (tVar 5) (tNil)))) (tNil))) (gName 7)) (tSeq (tAsg (tCall (sp_law_merging K) [] E0 (tCons (tVar 4) (tNil))) (gName 8)) (tSeq (tAsg (tCall (sp_reset_verdict K) [] E0 (tCons (tVar 7) (tNil))) (gName 9)) (tSeq (tIfS (tOr (tNot (tTr K (tCB (rIsi1 K) (tCons (tVar 9) (tCons (tC (.ty "tuple")) (tNil)))))) (tOr (tTest (tOp (rNe1 K) (tCB (rLen1 K) (tCons (tVar 9) (tNil))) (tC (.int 2)))) (tNot (tTr K (tCB (rIsi1 K) (tCons (tOp (rIx1 K) (tVar 9) (tC (.int 0))) (tCons (tC (.ty "str")) (tNil)))))))) (tRet (tC (.bl false))) (tNext)) (tSeq (tAsg (tOp (rEq1 K) (tCB rLenD1 (tCons (tVar 8) (tNil))) (tOp (rMul1 K) (tVar 5) (tVar 5))) (gName 10)) (C8.tCut (tIfS (tTr K (tVar 10)) (tSeq (tIfS (tOr (tTest (tOp (rNe1 K) (tOp (rIx1 K) (tVar 9) (tC (.int 0))) (tC (.str "resets")))) (tOr (tNot (tTr K (tCall (sp_law_is_feed K) [] E0 (tCons (tOp (rIx1 K) (tVar 9) (tC (.int 1))) (tCons (tVar 2) (tNil)))))) (tTest (tOp (rNe1 K) (tCB (rLen1 K) (tCons (tCall (sp_law_ends K) [] E0 (tCons (tVar 4) (tCons (tOp (rIx1 K) (tVar 9) (tC (.int 1))) (tNil)))) (tNil))) (tC (.int 1)))))) (tRet (tC (.bl false))) (tNext)) (tIfS (tOr (tTest (tOp rGt1 (tCB (rLen1 K) (tCons (tOp (rIx1 K) (tVar 9) (tC (.int 1))) (tNil))) (tOp rDiv1 (tOp (rMul1 K) (tOp (rMul1 K) (tOp rSub1 (tVar 5) (tC (.int 1))) (tVar 5)) (tOp rSub1 (tVar 5) (tC (.int 1)))) (tC (.int 2))))) (tNot (tTr K (tCall (sp_law_same 4 K) [] E0 (tCons (tCall (sp_law_asked K) [] E0 (tCons (tVar 7) (tCons (tOp (rIx1 K) (tVar 9) (tC (.int 1))) (tNil)))) (tCons (tTup (tCons (tC (.str "told")) (tCons (tC (.bl true)) (tNil)))) (tNil))))))) (tRet (tC (.bl false))) (tNext))) (tSeq (tIfS (tOr (tTest (tOp (rNe1 K) (tOp (rIx1 K) (tVar 9) (tC (.int 0))) (tC (.str "never")))) (tNot (tTr K (tCB (rIsi1 K) (tCons (tOp (rIx1 K) (tVar 9) (tC (.int 1))) (tCons (tC (.ty "tuple")) (tNil))))))) (tRet (tC (.bl false))) (tNext)) (tSeq (tFor (iSq K (tOp (rIx1 K) (tVar 9) (tC (.int 1)))) (gName 11) (tIfS (tOr (tNot (tTr K (tCall (sp_law_is_feed K) [] E0 (tCons (tVar 11) (tCons (tVar 5) (tNil)))))) (tTest (tOp (rNe1 K) (tCB (rLen1 K) (tCons (tVar 11) (tNil))) (tC (.int 2))))) (tRet (tC (.bl false))) (tNext))) (tIfS (tOr (tNot (tTr K (tCall (sp_law_never K) [] E0 (tCons (tVar 4) (tCons (tOp (rIx1 K) (tVar 9) (tC (.int 1))) (tNil)))))) (tNot (tTr K (tCall (sp_law_same 4 K) [] E0 (tCons (tCall (sp_shows_never K) [] E0 (tCons (tVar 7) (tCons (tOp (rIx1 K) (tVar 9) (tC (.int 1))) (tNil)))) (tCons (tC (.bl true)) (tNil))))))) (tRet (tC (.bl false))) (tNext))))) (tSeq (tAsg (tCall (sp_law_pool K) [] E0 (tCons (tVar 0) (tCons (tC (.int 20)) (tNil)))) (gName 1)) (tSeq (tFor (iSq K (tCall (sp_law_rows_of_pairs K) [] E0 (tCons (tVar 1) (tCons (tVar 4) (tCons (tVar 8) (tNil)))))) (gName 12) (tSeq (tAsg (tCall (sp_law_never K) [] E0 (tCons (tVar 4) (tCons (tVar 12) (tNil)))) (gName 13)) (tSeq (tAsg (tCB (rList1 K) (tCons (tVar 12) (tNil))) (gName 14)) (tSeq (tIfS (tOr (tAnd (tTr K (tVar 13)) (tTr K (tVar 10))) (tOr (tNot (tTr K (tCall (sp_law_same 4 K) [] E0 (tCons (tCall (sp_shows_never K) [] E0 (tCons (tVar 7) (tCons (tVar 14) (tNil)))) (tCons (tVar 13) (tNil)))))) (tTest (tOp (rNe1 K) (tVar 14) (tVar 12))))) (tRet (tC (.bl false))) (tNext)) (tIfS (tNot (tTr K (tCall (sp_law_same 4 K) [] E0 (tCons (tCall (sp_shows_never K) [] E0 (tCons (tVar 7) (tCons (tCB (rTuple1 K) (tCons (tVar 12) (tNil))) (tNil)))) (tCons (tVar 13) (tNil)))))) (tRet (tC (.bl false))) (tNext)))))) (tSeq (tFor (iRng1 (tCons (tC (.int 5)) (tNil))) (gName 15) (tSeq (tAsg (tLc (iRng1 (tCons (tCall (sp_law_draw K) [] E0 (tCons (tVar 1) (tCons (tC (.int 13)) (tNil)))) (tNil))) (gName 17) (tYes) (tCall (sp_law_draw K) [] E0 (tCons (tVar 1) (tCons (tVar 2) (tNil)))) [17]) (gName 16)) (tSeq (tAsg (tOp (rEq1 K) (tCB (rLen1 K) (tCons (tCall (sp_law_ends K) [] E0 (tCons (tVar 4) (tCons (tVar 16) (tNil)))) (tNil))) (tC (.int 1))) (gName 13)) (tSeq (tIfS (tOr (tAnd (tTr K (tVar 13)) (tNot (tTr K (tVar 10)))) (tNot (tTr K (tCall (sp_law_same 4 K) [] E0 (tCons (tCall (sp_law_asked K) [] E0 (tCons (tVar 7) (tCons (tCB (rList1 K) (tCons (tVar 16) (tNil))) (tNil)))) (tCons (tTup (tCons (tC (.str "told")) (tCons (tVar 13) (tNil)))) (tNil))))))) (tRet (tC (.bl false))) (tNext)) (tSeq (tAsg (tCall (sp_law_draw K) [] E0 (tCons (tVar 1) (tCons (tOp (rAdd1 K) (tCB (rLen1 K) (tCons (tVar 16) (tNil))) (tC (.int 1))) (tNil)))) (gName 18)) (tSeq (tDrop (tBM K "list" rInsert1 (tVar 16) (tCons (tVar 18) (tCons (tOp (rIx1 K) (tLst (tCons (tVar 2) (tCons (tOp rSub1 (tUn rNeg1 (tC (.int 1))) (tCall (sp_law_draw K) [] E0 (tCons (tVar 1) (tCons (tOp rPow1 (tC (.int 10)) (tC (.int 6))) (tNil))))) (tNil)))) (tCall (sp_law_draw K) [] E0 (tCons (tVar 1) (tCons (tC (.int 2)) (tNil))))) (tNil))))) (tIfS (tNot (tTr K (tCall (sp_law_same 4 K) [] E0 (tCons (tCall (sp_law_asked K) [] E0 (tCons (tVar 7) (tCons (tCB (rTuple1 K) (tCons (tOp (rAdd1 K) (tVar 16) (tLst (tCons (tVar 2) (tNil)))) (tNil))) (tNil)))) (tCons (tTup (tCons (tC (.str "feed")) (tCons (tVar 18) (tNil)))) (tNil)))))) (tRet (tC (.bl false))) (tNext)))))))) (tSeq (tAsg (tCall (sp_reset_verdict K) [] E0 (tCons (tMake (He.ga K "Control") (sp_Control__init K) [V.int 0] E0 (tCons (tVar 2) (tCons (tC (.int 1)) (tCons (tCall (sp_law_made K) [] E0 (tCons (tVar 4) (tCons (tCall (sp_law_pool K) [] E0 (tCons (tLst (tNil)) (tCons (tC (.int 0)) (tNil)))) (tCons (tC (.int 1)) (tNil))))) (tNil))))) (tNil))) (gName 19)) (tRet (tAndV (tOp (rEq1 K) (tOp (rIx1 K) (tVar 19) (tC (.int 0))) (tOp (rIx1 K) (tVar 9) (tC (.int 0)))) (tCall (sp_law_same 4 K) [] E0 (tCons (tOp (rIx1 K) (tCall (sp_reset_verdict K) [] E0 (tCons (tVar 7) (tNil))) (tC (.int 0))) (tCons (tOp (rIx1 K) (tVar 9) (tC (.int 0))) (tNil)))))))))))))))))))))))
theorem pure_law {K : PySem.W.Frag} (κ : KF K) (vs : List V) (H : Hp) (Q : VK) (E : XK) (h : sp_law K vs H Q E) : t_law K E ⟨fun _ H' => Q .non H', Q, fun _ _ => False, fun _ _ => False⟩ (start [("script" : Str), "pool", "cues", "replies", "columns", "states", "rows", "control", "found", "told", "resets", "pair", "pairs", "due", "given", "k", "feed", "j", "at", "again"] vs) H := by
  unfold t_law
  obtain ⟨a, ns, rfl, ha, hl, q⟩ := h
  refine x_start (σ' := [some _, none, none, none, none, none, none, none, none, none, none, none, none, none, none, none, none, none, none, none]) ?_ rfl
  have s : S (fun B => SqL K B a (ns.map V.int)) [] H := S.of ha
  walk_at "sx"
  refine ⟨a, ns, _, rfl, s.fact, by decide, fun p H1 x y z u h1 h2 h3 => ?_⟩
  have s := s.new h1 h2 h3
  clear h1 h2 h3
  walk_at "sx"
  refine ⟨_, _, 0, p, _, _, _, _, _, rfl, s, rfl, by first | decide | omega, b8000 (by first | decide | omega), fun H2 x y z u r1 r10 r11 s => ?_⟩
  simp only [List.set_cons_zero, List.set_cons_succ] at s
  walk_at "sx"
  refine ⟨_, _, 0, p, _, _, _, _, _, rfl, s, rfl, by first | decide | omega, b8000 (by first | decide | omega), fun H2 x y z u r2 r20 r21 s => ?_⟩
  simp only [List.set_cons_zero, List.set_cons_succ] at s
  walk_at "sx"
  refine x_cut (fun σ' H' => ∃ cues x y z u : Int, σ' = [some (.ref a), some (.ref p), some (.int cues), some (.int (1 + r2)), none, none, none, none, none, none, none, none, none, none, none, none, none, none, none, none] ∧ (1 ≤ cues ∧ cues ≤ 16) ∧ S (fun B => SqL K B a (ns.map V.int)) [(p, pl x y z u)] H') ?_ ?_
  · walk_at "sx"
    refine ⟨_, _, 0, p, _, _, _, _, _, rfl, s, rfl, by first | decide | omega, b8000 (by first | decide | omega), fun H2 x y z u r5 r50 r51 s => ?_⟩
    simp only [List.set_cons_zero, List.set_cons_succ] at s
    walk_at "sx"
    refine x_if (fun h => ?_) (fun h => ?_)
    · walk_at "sx"
      refine ⟨_, _, 0, p, _, _, _, _, _, rfl, s, rfl, by first | decide | omega, b8000 (by first | decide | omega), fun H2 x y z u r6 r60 r61 s => ?_⟩
      simp only [List.set_cons_zero, List.set_cons_succ] at s
      walk_at "sx"
      exact ⟨_, _, _, _, _, rfl, by omega, s⟩
    · walk_at "sx"
      exact ⟨_, _, _, _, _, rfl, by omega, s⟩
  clear s
  rintro σ' H' ⟨cues, x, y, z, u, rfl, hc, s⟩
  have hr : 1 ≤ 1 + r2 ∧ 1 + r2 ≤ 2 := by omega
  generalize 1 + r2 = replies at hr
  walk_at "sx"
  refine ⟨_, _, 0, p, _, _, _, _, _, rfl, s, rfl, by first | decide | omega, b8000 (by first | decide | omega), fun H2 x y z u st0 st00 st01 s => ?_⟩
  simp only [List.set_cons_zero, List.set_cons_succ] at s
  walk_at "sx"
  refine ⟨_, _, a, p, ns, _, _, _, _, cues, 1 + st0, rfl, s, fun B h => h, hc, by omega, fun c0 cols0 x y z u H2 ok0 s => ?_⟩
  walk_at "sx"
  refine x_cut (fun σ' H' => ∃ (cues : Int) (cl : Addr) (cols : List (List Int)) (n : Nat) (x y z u : Int), σ' = [some (.ref a), some (.ref p), some (.int cues), some (.int replies), some (.ref cl), none, none, none, none, none, none, none, none, none, none, none, none, none, none, none] ∧ (1 ≤ cues ∧ cues ≤ 16) ∧ (1 ≤ n ∧ n < 64) ∧ ColOk cols n cues.toNat ∧ S (fun B => ColsB K B cl cols ∧ SqL K B a (ns.map V.int)) [(p, pl x y z u)] H') ?_ ?_
  · walk_at "sx"
    refine ⟨_, _, 0, p, _, _, _, _, _, rfl, s, rfl, by first | decide | omega, b8000 (by first | decide | omega), fun H2 x y z u r7 r70 r71 s => ?_⟩
    simp only [List.set_cons_zero, List.set_cons_succ] at s
    walk_at "sx"
    refine x_if (fun h => ?_) (fun h => ?_)
    · walk_at "sx"
      refine ⟨_, _, 0, p, _, _, _, _, _, rfl, s, rfl, by first | decide | omega, b8000 (by first | decide | omega), fun H2 x y z u r8 r80 r81 s => ?_⟩
      simp only [List.set_cons_zero, List.set_cons_succ] at s
      walk_at "sx"
      refine ⟨_, _, 2 + r8, rfl, s, by omega, fun c1 cols1 H3 ok1 s => ?_⟩
      walk_at "sx"
      refine ⟨_, _, 0, p, _, _, _, _, _, rfl, s, rfl, by first | decide | omega, b8000 (by first | decide | omega), fun H2 x y z u r9 r90 r91 s => ?_⟩
      simp only [List.set_cons_zero, List.set_cons_succ] at s
      walk_at "sx"
      refine x_if (fun h => ?_) (fun h => ?_)
      · walk_at "sx"
        refine ⟨_, _, 0, p, _, _, _, _, _, rfl, s, rfl, by first | decide | omega, b8000 (by first | decide | omega), fun H2 x y z u r10 r100 r101 s => ?_⟩
        simp only [List.set_cons_zero, List.set_cons_succ] at s
        walk_at "sx"
        refine ⟨_, _, 10 + r10, rfl, s, by omega, fun c2 cols2 H4 ok2 s => ?_⟩
        walk_at "sx"
        exact ⟨2, c2, cols2, _, _, _, _, _, rfl, by decide, by omega, ok2, s.imp fun B f => ⟨f.1, f.2.2.2⟩⟩
      · walk_at "sx"
        exact ⟨2, c1, cols1, _, _, _, _, _, rfl, by decide, by omega, ok1, s.imp fun B f => ⟨f.1, f.2.2⟩⟩
    · walk_at "sx"
      exact ⟨cues, c0, cols0, _, _, _, _, _, rfl, hc, by omega, ok0, s⟩
  clear s hc ok0
  rintro σ' H' ⟨cues, cl, cols, n, x, y, z, u, rfl, hc, hn, ok, s⟩
  walk_at "sx"
  obtain ⟨cx, s⟩ := s.colsX fun B f => f.1
  obtain ⟨col0, e0⟩ : ∃ col, cols[0]? = some col := ⟨_, List.getElem?_eq_getElem (by have := ok.len; omega)⟩
  have l0 := (ok.all col0 (mem_of_get e0)).1
  obtain ⟨q0, hq0, hs0⟩ := col_at s (fun B f => f.1.2) e0
  refine x_ixL s.fact.1.1 (atI_nat (j := 0) hq0) ?_
  walk_at "sx"
  refine x_lenL (.inl (hs0 _ s.fact)) ?_
  rw [List.length_map, l0]
  have s := s.snd
  walk_at "sx"
  refine ⟨_, _, cl, p, cols, _, _, _, _, replies, n, cues.toNat, rfl, s, fun B f => f.1, ok, by omega, by omega, by omega, fun rw rows x y z u H5 hrl hrows hnx s => ?_⟩
  have hcu : ((cues.toNat : Nat) : Int) = cues := by omega
  rw [hcu] at hrows
  have hN := rowsN_of (n := (n : Int)) (by omega) (by rw [hrl]) hrows
  walk_at "sx"
  refine x_listRows (b := true) (fun B h => h.1) s fun q1 H7 s => ?_
  walk_at "sx"
  refine ⟨_, _, 0, p, _, _, _, _, _, rfl, s, rfl, by first | decide | omega, b8000 (by first | decide | omega), fun H2 x y z u st1 st10 st11 s => ?_⟩
  simp only [List.set_cons_zero, List.set_cons_succ] at s
  walk_at "sx"
  obtain ⟨c, ec⟩ : ∃ c : CD, c = ⟨cues, replies, rows, st1⟩ := ⟨_, rfl⟩
  have g : c.good := by rw [ec]; exact rowsN_good hN hc (show 1 ≤ replies ∧ replies ≤ 256 by omega) ⟨st10, by show st1 < (rows.length : Int); omega⟩
  have e1 : c.cues = cues := by rw [ec]
  have e2 : c.replies = replies := by rw [ec]
  have e3 : c.rows = rows := by rw [ec]
  have e4 : cols = colsOf c := cols_eq ok (by rw [e3, hrl]) (by rw [e1]) fun s k col hs hk => by rw [e3]; exact hnx s k col hs hk
  have s := s.imp (G := fun B => RowsB true K B q1 c.rows ∧ ColsB K B cl (colsOf c) ∧ SqL K B a (ns.map V.int)) fun B f => by rw [e3, ← e4]; exact ⟨f.1, f.2.2⟩
  refine ⟨rfl, rfl, x_ctl (b := true) (c := c) (fun _ => by rw [ec]; rfl) s (fun B h => h.1) g fun x1 H8 s => ?_⟩
  have sk : S (fun B => Ctl K B x1 c ∧ ColsB K B cl (colsOf c) ∧ SqL K B a (ns.map V.int)) [(p, pl x y z u)] H8 := s.imp fun B f => ⟨f.1, f.2.2⟩
  have hnl : n = c.rows.length := by rw [e3, hrl]
  have okc : ColOk (colsOf c) c.rows.length c.cues.toNat := by rw [← e4, ← hnl, e1]; exact ok
  clear ec e4 hnx hrows hN hrl
  subst e1 e2 e3 hnl
  have s := sk
  clear sk
  have gc := g.c
  have gs := g.s
  walk_at "sx"
  refine ⟨_, _, cl, c, rfl, s, fun B f => f.2.1, g, fun fo kvs ks H9 hfs s => ?_⟩
  have s := s.freezeX
  walk_at "sx"
  refine x_reset s (fun B f => f.2.1) g hn.2 fun t w qs o ps H10 hrv s => ?_
  have s := s.imp (G := F79 K ns a x1 cl fo t w c kvs o qs ps) fun B f => ⟨f.2.2.2.2, f.2.2.1, f.2.2.2.1, f.2.1, f.1.1, f.1.2⟩
  have mG := s.mono
  walk_at "sx"
  refine x_isi (T := "tuple") (tyx_t s.fact.2.2.2.2.1) (r := true) (by decide +kernel) ?_
  walk_at "sx"
  refine x_lenL (.inr s.fact.2.2.2.2.1) ?_
  walk_at "sx"
  refine x_no rfl ?_
  walk_at "sx"
  refine x_ixT s.fact.2.2.2.2.1 rfl ?_
  walk_at "sx"
  refine x_isi (T := "str") (dp_ty (.str _)) (r := true) (by decide +kernel) ?_
  walk_at "sx"
  have hle := hfs.1.max
  have hll := hfs.1.len
  have big : c.rows.length * c.rows.length ≤ 64 * 64 := Nat.mul_le_mul gs.2 gs.2
  refine x_lenDT s.fact.2.2.2.1 ?_
  walk_at "sx"
  obtain ⟨R, hR⟩ : ∃ R : Bool, R = decide (((kvs.length : Nat) : Int) = ((c.rows.length : Nat) : Int) * ((c.rows.length : Nat) : Int)) := ⟨_, rfl⟩
  rw [← hR]
  have hRA : R = true ↔ AllM c := by
    rw [hR, decide_eq_true_iff, ← found_full hfs, ← Int.natCast_mul]
    exact Int.ofNat_inj
  clear hR
  have hRo : o.isSome = R := by
    have := rv_all g hrv
    rw [Bool.eq_iff_iff, this, hRA]
  refine x_cut (fun σ' H' => ∃ (v11 : Option V), σ' = [some (.ref a), some (.ref p), some (.int c.cues), some (.int c.replies), some (.ref cl), some (.int c.rows.length), some (.ref rw), some (.ref x1), some (.ref fo), some (.ref t), some (.bl R), v11, none, none, none, none, none, none, none, none] ∧ S (F79 K ns a x1 cl fo t w c kvs o qs ps) [(p, pl x y z u)] H') ?_ ?_
  · walk_at "sx"
    cases o with
    | some f =>
      obtain rfl : R = true := hRo.symm
      obtain ⟨fc, fr, fl⟩ := hrv
      have okf := fI_ok (cues := c.cues) fc
      have fl2 : (c.rows.length - 1) * (c.rows.length * (c.rows.length - 1)) ≤ 64 * (64 * 64) := Nat.mul_le_mul (by omega) (Nat.mul_le_mul (by omega) (by omega))
      walk_at "sx"
      refine x_ixT s.fact.2.2.2.2.1 rfl ?_
      walk_at "sx"
      refine x_neS rfl ?_
      rw [show decide (V.str (rvW (some f)) = V.str "resets") = true from decide_eq_true rfl]
      walk_at "sx"
      refine x_ixT s.fact.2.2.2.2.1 rfl ?_
      walk_at "sx"
      refine ⟨_, _, w, c.cues, fI f, rfl, s, fun B h => h.2.2.2.2.2, okf, by rw [fI_len]; omega, fun H11 s => ?_⟩
      walk_at "sx"
      refine x_ixT s.fact.2.2.2.2.1 rfl ?_
      walk_at "sx"
      refine ⟨_, _, cl, w, false, c, fI f, rfl, s, fun B h => h.2.2.1, fun H' h _ => h.2.2.2.2.2, g, okf, by rw [fI_len]; omega, fun le es H12 hes s => ?_⟩
      walk_at "sx"
      rw [List.length_map]
      refine x_no (by rw [decide_eq_true (show ((es.length : Nat) : Int) = 1 by have := hes.mpr fr; omega)]; rfl) ?_
      have s := s.drop1
      walk_at "sx"
      refine x_ixT s.fact.2.2.2.2.1 rfl ?_
      walk_at "sx"
      refine x_lenL (.inr s.fact.2.2.2.2.2) ?_
      rw [List.length_map, fI_len]
      walk_at "sx"
      rw [decide_eq_false (bound_ok (by omega) fl)]
      walk_at "sx"
      refine x_ixT s.fact.2.2.2.2.1 rfl ?_
      walk_at "sx"
      refine ⟨_, _, x1, w, false, c, fI f, rfl, s, ⟨fun B h => ⟨h.2.1, h.2.2.2.2.2⟩, g, by rw [fI_len]; omega⟩, fun _ tp H13 s => ?_, fun i hb => (ok_not_bad okf hb).elim⟩
      rw [fr] at s
      walk_at "sx"
      refine x_newT (by simp) s fun td H14 s => ?_
      refine ⟨_, _, .tuple [.str "told", .bool true], rfl, .tup (sq_t (s.at 1 rfl)) (.cons (.str _) (.cons (.bl _) .nil)), .tup (sq_t (s.at 0 rfl)) (.cons (.str _) (.cons (.bl _) .nil)), fit_told_b, ?_⟩
      have s := s.drop1.drop1
      walk_at "sx"
      exact ⟨_, rfl, s⟩
    | none =>
      obtain rfl : R = false := hRo.symm
      have hnb := nevS_never hrv
      have hpl := hrv.2.1
      walk_at "sx"
      refine x_ixT s.fact.2.2.2.2.1 rfl ?_
      walk_at "sx"
      refine x_neS rfl ?_
      rw [show decide (V.str (rvW none) = V.str "never") = true from decide_eq_true rfl]
      walk_at "sx"
      refine x_ixT s.fact.2.2.2.2.1 rfl ?_
      walk_at "sx"
      refine x_isi (T := "tuple") (tyx_t s.fact.2.2.2.2.2.1) (r := true) (by decide +kernel) ?_
      walk_at "sx"
      refine x_ixT s.fact.2.2.2.2.1 rfl ?_
      refine x_forB s.fact.2.2.2.2.2.1 (fun i σ' H' => ∃ (v11 : Option V), σ' = [some (.ref a), some (.ref p), some (.int c.cues), some (.int c.replies), some (.ref cl), some (.int c.rows.length), some (.ref rw), some (.ref x1), some (.ref fo), some (.ref t), some (.bl false), v11, none, none, none, none, none, none, none, none] ∧ S (F79 K ns a x1 cl fo t w c kvs none qs ps) [(p, pl x y z u)] H') ⟨_, rfl, s⟩ (fun i σ H h => by obtain ⟨_, _, s⟩ := h; exact s.fact.2.2.2.2.2.1) ?_ ?_
      · clear s
        rintro i v σ' H' hv ⟨v11, rfl, s⟩
        obtain ⟨z1, pp, rfl, hpi, _⟩ := s.fact.2.2.2.2.2.2.get hv
        have key : ∀ B, F79 K ns a x1 cl fo t w c kvs none qs ps B → PairAt B z1 pp := fun B h => h.2.2.2.2.2.2.at hpi hv
        have hlt := (hrv.2.2 pp (mem_of_get hpi)).1
        walk_at "sx"
        refine ⟨_, _, z1, c.rows.length, [pp.1, pp.2], rfl, s, fun B h => (key B h).sq, fun m hm => ?_, by simp, fun H11 s => ?_⟩
        · simp only [List.mem_cons, List.not_mem_nil, or_false] at hm
          rcases hm with rfl | rfl
          · exact hlt.1.1
          · exact hlt.1.2
        walk_at "sx"
        refine x_lenL (.inr (key _ s.fact).sq) ?_
        walk_at "sx"
        exact ⟨_, rfl, s⟩
      clear s
      rintro σ' H' ⟨v11, rfl, s⟩
      walk_at "sx"
      refine x_ixT s.fact.2.2.2.2.1 rfl ?_
      walk_at "sx"
      refine ⟨_, _, cl, w, false, c, qs, ps, rfl, s, fun B h => ⟨h.2.2.1, h.2.2.2.2.2⟩, g, by omega, fun H12 s => ?_⟩
      rw [hnb]
      walk_at "sx"
      refine x_ixT s.fact.2.2.2.2.1 rfl ?_
      walk_at "sx"
      refine ⟨_, _, x1, w, false, c, qs, ps, rfl, s, fun B h => ⟨h.2.1, h.2.2.2.2.2⟩, g, by omega, noTup_pl, fun H13 s => ?_⟩
      rw [hnb]
      walk_at "sx"
      refine ⟨_, _, .bool true, rfl, .bl _, .bl _, trivial, ?_⟩
      walk_at "sx"
      exact ⟨_, rfl, s⟩
  clear s
  rintro σ' H' ⟨v11, rfl, s⟩
  have s := s.drop1
  walk_at "sx"
  refine ⟨a, ns, _, rfl, s.fact.1, by decide, fun p2 H13 x y z u h1 h2 h3 => ?_⟩
  have s := s.new h1 h2 h3
  clear h1 h2 h3
  walk_at "sx"
  refine ⟨_, _, p2, cl, fo, _, _, _, _, c, kvs, ks, rfl, s, fun B h => ⟨h.2.2.1, h.2.2.2.1⟩, hfs.1.kn, g, fun D xs pss x y z u H14 s => ?_⟩
  refine x_forB s.fact.1.1 (fun i σ' H' => ∃ (v12 v13 v14 : Option V), σ' = [some (.ref a), some (.ref p2), some (.int c.cues), some (.int c.replies), some (.ref cl), some (.int c.rows.length), some (.ref rw), some (.ref x1), some (.ref fo), some (.ref t), some (.bl R), v11, v12, v13, v14, none, none, none, none, none] ∧ S (fun B => (SqB true K B D xs ∧ PapB B xs pss) ∧ F79 K ns a x1 cl fo t w c kvs o qs ps B) [(p2, pl x y z u)] H') ⟨_, _, _, rfl, s⟩ (fun i σ H h => by obtain ⟨_, _, _, _, s⟩ := h; exact s.fact.1.1) ?_ ?_
  · clear s
    rintro i v σ' H' hv ⟨v12, v13, v14, rfl, s⟩
    obtain ⟨l, rqs, rps, rfl, rl, s⟩ := s.pap (fun B f => f.1.2) hv
    walk_at "sx"
    refine ⟨_, _, cl, l, true, c, rqs, rps, rfl, s, fun B h => ⟨h.2.2.2.2.1, sq_l h.1.1, h.1.2⟩, g, by omega, fun H15 s => ?_⟩
    walk_at "sx"
    refine x_listof (.inl (sq_l s.fact.1.1)) s fun gv H16 s => ?_
    have s := s.freezeL (K := K)
    walk_at "sx"
    have hdr : neverB c rps = true → R = false := fun h => by
      rw [Bool.eq_false_iff]
      exact fun z => never_not g h (hRA.mp z)
    refine x_andJ0 (B := R) (fun _ R' k => by walk_at "sx"; exact k) hdr ?_
    walk_at "sx"
    refine ⟨_, _, x1, gv, true, c, rqs, rps, rfl, s, fun B h => ⟨h.2.2.2.2.1, h.1, h.2.1.2⟩, g, by omega, noTup_pl, fun H17 s => ?_⟩
    walk_at "sx"
    refine ⟨_, _, .bool (neverB c rps), rfl, .bl _, .bl _, trivial, ?_⟩
    walk_at "sx"
    refine x_neDp (d := .list (rps.map pairD)) (.lst s.fact.1 s.fact.2.1.2.dp) (.lst (sq_l s.fact.2.1.1) s.fact.2.1.2.dp) (shaped_pairs rps) ?_
    walk_at "sx"
    refine x_tupof (sq_l s.fact.2.1.1) s fun tp H18 s => ?_
    have s := s.freezeT (K := K)
    walk_at "sx"
    refine ⟨_, _, x1, tp, false, c, rqs, rps, rfl, s, fun B h => ⟨h.2.2.2.2.2.1, h.1, h.2.2.1.2⟩, g, by omega, noTup_pl, fun H19 s => ?_⟩
    walk_at "sx"
    refine ⟨_, _, .bool (neverB c rps), rfl, .bl _, .bl _, trivial, ?_⟩
    walk_at "sx"
    exact ⟨_, _, _, rfl, s.imp fun B h => h.2.2.2⟩
  clear s
  rintro σ' H' ⟨v12, v13, v14, rfl, s⟩
  have s := s.snd
  walk_at "sx"
  refine x_forR1 (n := 5) rfl (by decide) (fun i σ' H' => ∃ (v13 v15 v16 v18 : Option V) (x y z u : Int), σ' = [some (.ref a), some (.ref p2), some (.int c.cues), some (.int c.replies), some (.ref cl), some (.int c.rows.length), some (.ref rw), some (.ref x1), some (.ref fo), some (.ref t), some (.bl R), v11, v12, v13, v14, v15, v16, none, v18, none] ∧ S (F79 K ns a x1 cl fo t w c kvs o qs ps) [(p2, pl x y z u)] H') ⟨_, _, _, _, x, y, z, u, rfl, s⟩ ?_ ?_
  · clear s
    rintro i σ' H' hi ⟨v13, v15, v16, v18, x, y, z, u, rfl, s⟩
    walk_at "sx"
    refine ⟨_, _, 0, p2, _, _, _, _, _, rfl, s, rfl, by first | decide | omega, b8000 (by first | decide | omega), fun H2 x y z u many many0 many1 s => ?_⟩
    simp only [List.set_cons_zero, List.set_cons_succ] at s
    walk_at "sx"
    refine x_lcPR (K := K) (α := Int × Int × Int × Int) (cf := fun w => [(p2, pl w.1 w.2.1 w.2.2.1 w.2.2.2)]) (x, y, z, u) (fun _ d => ∃ n : Int, d = .int n ∧ (0 ≤ n ∧ n < c.cues)) (n := many.toNat) (by omega) (by omega) s ?_ ?_
    · clear s
      rintro D acc ds ⟨x, y, z, u⟩ i H4 Put Skip hi hl hP put s
      walk_at "wipe"
      walk_at "sx"
      refine ⟨rfl, ?_⟩
      walk_at "sx"
      refine ⟨_, _, 1, p2, _, _, _, _, _, rfl, s, rfl, by first | decide | omega, b8000 (by first | decide | omega), fun H2 x y z u r1 r10 r11 s => ?_⟩
      simp only [List.set_cons_zero, List.set_cons_succ] at s
      walk_at "sx"
      exact put _ (.int r1) (x, y, z, u) _ ⟨r1, rfl, r10, r11⟩ (s.imp fun B h => ⟨.int _, h⟩)
    clear s
    rintro ff acc ds ⟨x, y, z, u⟩ H15 hl2 hP s
    obtain ⟨f, rfl, okf⟩ := ds_all hP
    have okf : FeedOk c.cues f := okf
    have eacc := dpAll_intE s.fact.1
    subst eacc
    have s := s.snd
    dsimp only at s
    rw [List.length_map] at hl2
    walk_at "sx"
    refine ⟨_, _, cl, ff, true, c, f, rfl, s, fun B h => h.2.2.1, fun H' _ h => sq_l (h _ (List.mem_cons_self ..)), g, okf, by omega, fun le es H12 hes s => ?_⟩
    walk_at "sx"
    rw [List.length_map]
    have ees : decide (((es.length : Nat) : Int) = 1) = resetB c f := by
      rw [Bool.eq_iff_iff, decide_eq_true_iff, ← hes]
      omega
    rw [ees]
    have s := s.drop1
    walk_at "sx"
    refine x_andJ0 (B := !R) (fun _ R' k => by walk_at "sx"; exact k) (fun hd => by rw [hRA.mpr (reset_all g okf hd)]; rfl) ?_
    walk_at "sx"
    refine x_listof (.inl (sq_l (s.at 0 rfl))) s fun f2 H16 s => ?_
    have s := s.freezeL (K := K)
    walk_at "sx"
    refine ⟨_, _, x1, f2, true, c, f, rfl, s, ⟨fun B h => ⟨h.2.2.1, h.1⟩, g, by omega⟩, fun _ tp H13 s => ?_, fun i hb => (ok_not_bad okf hb).elim⟩
    walk_at "sx"
    refine x_newT (by simp) s fun td H14 s => ?_
    refine ⟨_, _, .tuple [.str "told", .bool (resetB c f)], rfl, .tup (sq_t (s.at 1 rfl)) (.cons (.str _) (.cons (.bl _) .nil)), .tup (sq_t (s.at 0 rfl)) (.cons (.str _) (.cons (.bl _) .nil)), fit_told_b, ?_⟩
    have s := s.drop1.drop1.snd
    walk_at "sx"
    rw [List.length_map]
    refine ⟨_, _, 1, p2, _, _, _, _, _, rfl, s, rfl, by first | decide | omega, b8000 (by first | decide | omega), fun H2 x y z u at0 at00 at01 s => ?_⟩
    simp only [List.set_cons_zero, List.set_cons_succ] at s
    walk_at "sx"
    rw [show (10 : Int) ^ Int.toNat 6 = 1000000 from rfl]
    refine ⟨_, _, 1, p2, _, _, _, _, _, rfl, s, rfl, by first | decide | omega, b8000 (by first | decide | omega), fun H2 x y z u e2 e20 e21 s => ?_⟩
    simp only [List.set_cons_zero, List.set_cons_succ] at s
    walk_at "sx"
    refine x_newL (by simp) s fun pl2 H6 s => ?_
    walk_at "sx"
    refine ⟨_, _, 2, p2, _, _, _, _, _, rfl, s, rfl, by first | decide | omega, b8000 (by first | decide | omega), fun H2 x y z u pk pk0 pk1 s => ?_⟩
    simp only [List.set_cons_zero, List.set_cons_succ] at s
    walk_at "sx"
    obtain ⟨n0, hn0, hbad⟩ : ∃ n0 : Int, atI [V.int c.cues, V.int (-1 - e2)] pk = some (.int n0) ∧ ¬ (0 ≤ n0 ∧ n0 < c.cues) := by
      have : pk = 0 ∨ pk = 1 := by omega
      rcases this with rfl | rfl
      · exact ⟨_, rfl, by omega⟩
      · exact ⟨_, rfl, by omega⟩
    refine x_ixC s (by walk_at "m") hn0 ?_
    have s := s.drop1
    walk_at "sx"
    refine x_insert s (n := 0) rfl (by rw [List.length_map]; omega) (by omega) fun H7 s => ?_
    rw [ins_ints] at s
    simp only [List.set_cons_zero] at s
    obtain ⟨at1, rfl⟩ : ∃ n : Nat, at0 = (n : Nat) := ⟨at0.toNat, by omega⟩
    rw [Int.toNat_natCast] at s
    have hb := bad_ins okf (i := at1) (by omega) hbad [c.cues]
    have hbl : (f.take at1 ++ [n0] ++ f.drop at1).length < 1000000 := by
      rw [List.length_append, List.length_append, List.length_take, List.length_drop]
      simp
      omega
    generalize f.take at1 ++ [n0] ++ f.drop at1 = bf at s hb hbl
    walk_at "sx"
    refine x_newL (by simp) s fun l1 H8 s => ?_
    refine x_catL s (s.at 1 rfl) (s.at 0 rfl) (by rw [List.length_map]; simp; omega) fun l2 H9 s => ?_
    rw [show bf.map V.int ++ [V.int c.cues] = (bf ++ [c.cues]).map V.int by rw [List.map_append]; rfl] at s
    walk_at "sx"
    refine x_tupof (sq_l (s.at 0 rfl)) s fun tf H10 s => ?_
    have s := s.freezeT (K := K)
    walk_at "sx"
    refine ⟨_, _, x1, tf, false, c, bf ++ [c.cues], rfl, s, ⟨fun B h => ⟨h.2.2.1, h.1⟩, g, by rw [List.length_append, List.length_singleton]; omega⟩, fun okb => (ok_not_bad okb hb).elim, fun j hj tp H11 s => ?_⟩
    have ej := bad_uniq hj hb
    rw [ej] at s
    walk_at "sx"
    refine x_newT (by simp) s fun td H8 s => ?_
    refine ⟨_, _, .tuple [.str "feed", .int (at1 : Nat)], rfl, .tup (sq_t (s.at 1 rfl)) (.cons (.str _) (.cons (.int _) .nil)), .tup (sq_t (s.at 0 rfl)) (.cons (.str _) (.cons (.int _) .nil)), fit_feed, ?_⟩
    walk_at "sx"
    exact ⟨_, _, _, _, x, y, z, u, rfl, s.drop1.drop1.drop1.drop1.drop1.snd⟩
  clear s
  rintro σ' H' ⟨v13, v15, v16, v18, x, y, z, u, rfl, s⟩
  have s := s.drop1
  walk_at "sx"
  refine x_newL (by simp) s fun l0 H8 s => ?_
  walk_at "sx"
  refine ⟨l0, [], 0, rfl, sq_l (s.at 0 rfl), by decide, fun p3 H9 x y z u h1 h2 h3 => ?_⟩
  have s := (s.new h1 h2 h3).sub (cs' := [(p3, pl x y z u)]) ((List.nil_sublist _).cons₂ _)
  clear h1 h2 h3
  walk_at "sx"
  refine ⟨_, _, cl, p3, colsOf c, _, _, _, _, 1, c.rows.length, c.cues.toNat, rfl, s, fun B f => f.2.2.1, okc, by omega, by omega, by omega, fun rw2 rows2 x y z u H10 hrl2 hrows2 hnx2 s => ?_⟩
  rw [Int.toNat_of_nonneg (by omega)] at hrows2
  have hN2 := rowsN_of (n := (c.rows.length : Int)) (by omega) (by rw [hrl2]) hrows2
  have g2 : (⟨c.cues, 1, rows2, 0⟩ : CD).good := rowsN_good hN2 hc (show 1 ≤ (1 : Int) ∧ (1 : Int) ≤ 256 by decide) ⟨Int.le_refl _, by show (0 : Int) < (rows2.length : Int); omega⟩
  have ec2 : colsOf c = colsOf ⟨c.cues, 1, rows2, 0⟩ := cols_eq (c := ⟨c.cues, 1, rows2, 0⟩) okc hrl2 rfl hnx2
  walk_at "sx"
  refine x_ctl (b := true) (c := ⟨c.cues, 1, rows2, 0⟩) (fun _ => rfl) s (fun B h => h.1) g2 fun x2 H11 s => ?_
  walk_at "sx"
  refine x_reset s (fun B f => f.1) g2 (by show rows2.length < 64; omega) fun t2 w2 qs2 o2 ps2 H12 hrv2 s => ?_
  have ew2 : rvW o2 = rvW o := rv_word (by
    rw [Bool.eq_iff_iff, rv_all g2 hrv2, rv_all g hrv]
    exact all_same g hrl2 rfl ec2.symm)
  rw [ew2] at s
  walk_at "sx"
  refine x_ixT s.fact.1.1 rfl ?_
  walk_at "sx"
  refine x_ixT s.fact.2.2.2.2.2.2.2.1 rfl ?_
  walk_at "sx"
  refine x_eqS rfl ?_
  rw [decide_eq_true rfl]
  walk_at "sx"
  refine x_reset s (fun B f => f.2.2.2.2.1) g hn.2 fun t3 w3 qs3 o3 ps3 H13 hrv3 s => ?_
  have ew3 : rvW o3 = rvW o := rv_word (by rw [Bool.eq_iff_iff, rv_all g hrv3, rv_all g hrv])
  rw [ew3] at s
  refine x_ixT s.fact.1.1 rfl ?_
  walk_at "sx"
  refine x_ixT s.fact.2.2.2.2.2.2.2.2.1 rfl ?_
  walk_at "sx"
  exact ⟨_, _, .str (rvW o), rfl, .str _, .str _, trivial, q _⟩
/-! ## the text has them -/
theorem r_FeedError {P : Program} {w : World} {K : PySem.W.Frag} {mg : Str → Option Value} {base : Heap} (Z : Zz P w K mg base) : RaiseOk P w K mg base ed_FeedError ["self", "index"] := by
  obtain ⟨fd, F, doc, pm, cd, ct, cc, rfl⟩ := fn_err (p := "index") (w := w) (base := base) (Z.err 0 (d := ed_FeedError) rfl) Z.op Z.pf Z.pt (He.free_ok Z.X Z.G (Z.k.fact 73 (f := .free "super") rfl)) rfl rfl rfl (fun _ _ _ _ => rfl) (by decide +kernel) rfl ⟨by decide, by decide⟩
  exact ⟨_, F, Binds.all (fun us hl => match us, hl with | [_, _], _ => rfl), (He.glo_ok Z.X Z.G (Z.k.fact 33 (f := .glo "FeedError") rfl)), (Z.err 0 (d := ed_FeedError) rfl).ox, (Z.err 0 (d := ed_FeedError) rfl).init, (Z.err 0 (d := ed_FeedError) rfl).ty⟩
theorem e_FeedError {P : Program} {w : World} {K : PySem.W.Frag} {mg : Str → Option Value} {base : Heap} (Z : Zz P w K mg base) : ExcC K (He.ga K "FeedError") ∧ XfC K (He.ga K "FeedError") := ker_FeedError Z.k
theorem sc_is_entry : FnScope [("entry" : Str), "states", "replies", "following", "reply"] [("entry" : Str), "states", "replies"] (defScope s_is_entry) := ⟨rfl, rfl, rfl, by decide +kernel, rfl, by decide +kernel, by decide +kernel⟩
theorem o_is_entry {P : Program} {w : World} {K : PySem.W.Frag} {mg : Str → Option Value} {base : Heap} (Z : Zz P w K mg base) {fd : FuncData} (F : FunD K dd_is_entry.name dd_is_entry.qual dd_is_entry.params dd_is_entry.body dd_is_entry.scope (dd_is_entry.dvs K) (dd_is_entry.kws K) (He.fAd K dd_is_entry.at_) fd) : FnOk P w K mg base (L2.CX P w) 1 (He.fAd K dd_is_entry.at_) fd [("entry" : Str), "states", "replies"] (sp_is_entry K) := by
  refine F.ok sc_is_entry (fun vs H Q E h => ?_) (fun cdv A outer s H vs Q E hr h => ⟨t_is_entry K E, PSs.nox ?_, pure_is_entry Z.k vs H Q E h⟩)
  · obtain ⟨_, _, _, _, e, _⟩ := h; rw [e]; rfl
  · exact pss_cons (ps_asg (pv 0) (pg_tup rfl (pgs_cons (pg_name (i := 3) sc_is_entry.nd rfl (by first | exact Or.inl rfl | exact Or.inr rfl)) (pgs_cons (pg_name (i := 4) sc_is_entry.nd rfl (by first | exact Or.inl rfl | exact Or.inr rfl)) (pgs_nil))))) (pss_one (ps_ret (pe_and (pe_chain op_le op_lt (pe_int) (pv 3) (pv 1)) (pe_one (pe_chain op_le op_lt (pe_int) (pv 4) (pv 2))))))
theorem d_is_entry {P : Program} {w : World} {K : PySem.W.Frag} {mg : Str → Option Value} {base : Heap} (Z : Zz P w K mg base) : DefOk P w K mg base "_is_entry" 1 [("entry" : Str), "states", "replies"] [] (sp_is_entry K) := by
  obtain ⟨fd, F⟩ := Z.c.def_ 2 (d := dd_is_entry) rfl
  have b := F.bindsN (ps := [("entry" : Str), "states", "replies"]) fun _ _ _ _ _ _ us hl => match us, hl with | [_, _, _], _ => rfl
  exact ⟨_, fd, [], o_is_entry Z F, (He.glo_ok Z.X Z.G (Z.k.fact 54 (f := .glo "_is_entry") rfl)), F.kp, b, .nil⟩
theorem sc_Control__init : FnScope [("self" : Str), "cues", "replies", "rows", "start", "states", "state", "row", "entry"] [("self" : Str), "cues", "replies", "rows", "start"] (defScope s_Control__init) := ⟨rfl, rfl, rfl, by decide +kernel, rfl, by decide +kernel, by decide +kernel⟩
theorem o_Control__init {P : Program} {w : World} {K : PySem.W.Frag} {mg : Str → Option Value} {base : Heap} (Z : Zz P w K mg base) {fd : FuncData} (F : FunD K dd_Control__init.name dd_Control__init.qual dd_Control__init.params dd_Control__init.body dd_Control__init.scope (dd_Control__init.dvs K) (dd_Control__init.kws K) (He.fAd K dd_Control__init.at_) fd) : FnOk P w K mg base (L2.CX P w) 2 (He.fAd K dd_Control__init.at_) fd [("self" : Str), "cues", "replies", "rows", "start"] (sp_Control__init K) := by
  refine F.ok sc_Control__init (fun vs H Q E h => ?_) (fun cdv A outer s H vs Q E hr h => ⟨t_Control__init K E, PSs.nox ?_, pure_Control__init Z.k vs H Q E h⟩)
  · obtain ⟨_, _, _, _, _, _, _, _, e, _⟩ := h; rw [e]; rfl
  · exact pss_cons (ps_set (i := 5) sc_Control__init.nd rfl (by first | exact Or.inl rfl | exact Or.inr rfl) (pe_callB call_len1 (by rfl) (He.free_ok Z.X Z.G (Z.k.fact 5 (f := .free "len") rfl)) (by decide +kernel) (pa_cons (pv 3) (pa_nil)))) (pss_cons (ps_if (PW.pt (pw_or (pt_not (pt_chain op_le op_le (pe_int) (pv 1) (pe_con (pv 0) (by rfl)))) (pw_or1 (pt_not (pt_chain op_le op_le (pe_int) (pv 2) (pe_con (pv 0) (by rfl))))))) (pss_one (ps_never)) (pss_nil)) (pss_cons (ps_if (PW.pt (pw_or (pt_not (pt_chain op_le op_le (pe_int) (pv 5) (pe_con (pv 0) (by rfl)))) (pw_or1 (pt_not (pt_chain op_le op_lt (pe_int) (pv 4) (pv 5)))))) (pss_one (ps_never)) (pss_nil)) (pss_cons (ps_fld (pv 0) (pv 1) rfl) (pss_cons (ps_fld (pv 0) (pv 2) rfl) (pss_cons (ps_fld (pv 0) (pv 5) rfl) (pss_cons (ps_fld (pv 0) (pv 4) rfl) (pss_cons (ps_fld (pv 0) (pe_callTy call_tuple1 (by rfl) (He.free_ok Z.X Z.G (Z.k.fact 7 (f := .free "tuple") rfl)) (by decide +kernel) (pa_cons (pv 3) (pa_nil))) rfl) (pss_one (ps_for PassesOwn.never rfl (pi_enum1 (by rfl) (He.free_ok Z.X Z.G (Z.k.fact 1 (f := .free "enumerate") rfl)) (pa_cons (pe_fld (pv 0) (by rfl)) (pa_nil))) (pg_tup rfl (pgs_cons (pg_name (i := 6) sc_Control__init.nd rfl (by first | exact Or.inl rfl | exact Or.inr rfl)) (pgs_cons (pg_name (i := 7) sc_Control__init.nd rfl (by first | exact Or.inl rfl | exact Or.inr rfl)) (pgs_nil)))) (pss_one (ps_if (PW.pt (pw_or (pt_cmpR (op_ne1 (hu64 hr)) (pe_callB call_len1 (by rfl) (He.free_ok Z.X Z.G (Z.k.fact 5 (f := .free "len") rfl)) (by decide +kernel) (pa_cons (pv 7) (pa_nil))) (pv 1) (nomark _)) (pw_or1 (pt_not (pt_tr (pe_callB (cr_all rfl) (by rfl) (He.free_ok Z.X Z.G (Z.k.fact 6 (f := .free "all") rfl)) (by decide +kernel) (pa_cons (pe_lc (own := [("entry", 8)]) rfl sc_Control__init.nd (pi_sq1 (pv 7)) (blkOk_by (N := [("self" : Str), "cues", "replies", "rows", "start", "states", "state", "row", "entry"]) (sc := defScope s_Control__init) (by decide +kernel)) (fun _ _ _ _ _ => pg_name (i := 8) sc_Control__init.nd rfl (by first | exact Or.inl rfl | exact Or.inr rfl)) (fun _ _ _ _ _ => pts_nil) (fun _ _ _ _ _ => pe_def (d_is_entry Z) (hr.mono (by first | decide | exact Nat.le_refl _)) (by rfl) passL (pa_cons (pv 8) (pa_cons (pv 5) (pa_cons (pv 2) (pa_nil)))))) (pa_nil))) (by intro _; rfl)))))) (pss_one (ps_never)) (pss_nil))))))))))))
theorem mk_Control__init {P : Program} {w : World} {K : PySem.W.Frag} {mg : Str → Option Value} {base : Heap} (Z : Zz P w K mg base) : MakeOk P w K mg base "Control" 2 [("self" : Str), "cues", "replies", "rows", "start"] [V.int 0] (sp_Control__init K) := by
  obtain ⟨fd, F⟩ := Z.c.def_ 3 (d := dd_Control__init) rfl
  obtain ⟨ds, hv, b⟩ := F.binds0 (ps := [("self" : Str), "cues", "replies", "rows", "start"]) 4 (List.cons_ne_nil _ _) rfl fun D doc pm an cdv ct us ks h1 h2 => match us, ks, h1, h2 with | [_, _, _, _], [_], _, _ => by repeat (first | exact rfl | refine ⟨_, _, _, _, _, _, rfl, rfl, ?_⟩)
  exact ⟨fd, ds, (He.mkr_ok (Z.k.fact 50 (f := .mkr "Control") rfl)), (He.glo_ok Z.X Z.G (Z.k.fact 51 (f := .glo "Control") rfl)), o_Control__init Z F, b, hv⟩
theorem k_kb_Control__init_3_start {P : Program} {w : World} {K : PySem.W.Frag} {mg : Str → Option Value} {base : Heap} (Z : Zz P w K mg base) : MakeKw P w K mg base "Control" 2 [("self" : Str), "cues", "replies", "rows", "start"] 3 [("start" : Str)] g_kb_Control__init_3_start (sp_Control__init K) := by
  obtain ⟨fd, F⟩ := Z.c.def_ 3 (d := dd_Control__init) rfl
  obtain ⟨mv, hb⟩ := F.kbinds0 (ps := [("self" : Str), "cues", "replies", "rows", "start"]) 4 [("start" : Str)] [] (fun vs mz zs => vs ++ (zs)) (List.cons_ne_nil _ _) (by intro q hq; cases hq) (fun r1 r2 r3 => Vals.append r1 r3) (fun D doc pm an cdv ct us mv ws h1 h2 h3 => match us, mv, ws, h1, h2, h3 with
    | [_, _, _, _], [], [_], _, _, _ => by repeat (first | exact rfl | refine ⟨_, _, _, _, _, _, rfl, rfl, ?_⟩))
  exact ⟨fd, _, (He.mkr_ok (Z.k.fact 50 (f := .mkr "Control") rfl)), (He.glo_ok Z.X Z.G (Z.k.fact 51 (f := .glo "Control") rfl)), o_Control__init Z F, hb⟩
theorem sc_Control_entry : FnScope [("self" : Str), "state", "cue"] [("self" : Str), "state", "cue"] (defScope s_Control_entry) := ⟨rfl, rfl, rfl, by decide +kernel, rfl, by decide +kernel, by decide +kernel⟩
theorem o_Control_entry {P : Program} {w : World} {K : PySem.W.Frag} {mg : Str → Option Value} {base : Heap} (Z : Zz P w K mg base) {fd : FuncData} (F : FunD K dd_Control_entry.name dd_Control_entry.qual dd_Control_entry.params dd_Control_entry.body dd_Control_entry.scope (dd_Control_entry.dvs K) (dd_Control_entry.kws K) (He.fAd K dd_Control_entry.at_) fd) : FnOk P w K mg base (L2.CX P w) 1 (He.fAd K dd_Control_entry.at_) fd [("self" : Str), "state", "cue"] (sp_Control_entry K) := by
  refine F.ok sc_Control_entry (fun vs H Q E h => ?_) (fun cdv A outer s H vs Q E hr h => ⟨t_Control_entry K E, PSs.nox ?_, pure_Control_entry Z.k vs H Q E h⟩)
  · obtain ⟨_, _, _, _, _, _, e, _⟩ := h; rw [e]; rfl
  · exact pss_one (ps_ret (pe_ix ix_1 (pe_ix ix_1 (pe_fld (pv 0) (by rfl)) (pv 1) (fun _ _ => rfl)) (pv 2) (fun _ _ => rfl)))
theorem d_Control_entry {P : Program} {w : World} {K : PySem.W.Frag} {mg : Str → Option Value} {base : Heap} (Z : Zz P w K mg base) : MethOk P w K mg base (He.ga K "Control") "entry" 1 [("self" : Str), "state", "cue"] [] (sp_Control_entry K) := by
  obtain ⟨fd, F⟩ := Z.c.def_ 4 (d := dd_Control_entry) rfl
  have b := F.bindsN (ps := [("self" : Str), "state", "cue"]) fun _ _ _ _ _ _ us hl => match us, hl with | [_, _, _], _ => rfl
  exact ⟨fd, [], (He.cls_ok (Z.k.fact 3 (f := .cls "Control") rfl)), (He.meth_ok (Z.k.fact 2 (f := .meth "Control" "entry") rfl)), o_Control_entry Z F, b, .nil⟩
theorem sc_check_feed : FnScope [("cues" : Str), "feed", "index", "cue"] [("cues" : Str), "feed"] (defScope s_check_feed) := ⟨rfl, rfl, rfl, by decide +kernel, rfl, by decide +kernel, by decide +kernel⟩
theorem o_check_feed {P : Program} {w : World} {K : PySem.W.Frag} {mg : Str → Option Value} {base : Heap} (Z : Zz P w K mg base) {fd : FuncData} (F : FunD K dd_check_feed.name dd_check_feed.qual dd_check_feed.params dd_check_feed.body dd_check_feed.scope (dd_check_feed.dvs K) (dd_check_feed.kws K) (He.fAd K dd_check_feed.at_) fd) : FnOk P w K mg base (L2.CX P w) 3 (He.fAd K dd_check_feed.at_) fd [("cues" : Str), "feed"] (sp_check_feed K) := by
  refine F.ok sc_check_feed (fun vs H Q E h => ?_) (fun cdv A outer s H vs Q E hr h => ⟨t_check_feed K E, ?_, pure_check_feed Z.k vs H Q E h⟩)
  · obtain ⟨_, _, _, _, _, _, e, _⟩ := h; rw [e]; rfl
  · exact pss_one (ps_for (passes_of rfl) rfl (pi_enum1 (by rfl) (He.free_ok Z.X Z.G (Z.k.fact 1 (f := .free "enumerate") rfl)) (pa_cons (pv 1) (pa_nil))) (pg_tup rfl (pgs_cons (pg_name (i := 2) sc_check_feed.nd rfl (by first | exact Or.inl rfl | exact Or.inr rfl)) (pgs_cons (pg_name (i := 3) sc_check_feed.nd rfl (by first | exact Or.inl rfl | exact Or.inr rfl)) (pgs_nil)))) (pss_one (ps_if (pt_not (pt_chain op_le op_lt (pe_int) (pv 3) (pv 0))) (pss_one (ps_raiseM rfl (r_FeedError Z) (hr.mono (by decide)) (takes_of rfl rfl rfl rfl) (passes_call (takes_of rfl rfl rfl rfl) fun _ _ _ _ h => h.elim) rfl (by rfl) (pa_cons (pv 2) pa_nil))) (pss_nil))))
theorem d_check_feed {P : Program} {w : World} {K : PySem.W.Frag} {mg : Str → Option Value} {base : Heap} (Z : Zz P w K mg base) : DefOk P w K mg base "check_feed" 3 [("cues" : Str), "feed"] [] (sp_check_feed K) := by
  obtain ⟨fd, F⟩ := Z.c.def_ 0 (d := dd_check_feed) rfl
  have b := F.bindsN (ps := [("cues" : Str), "feed"]) fun _ _ _ _ _ _ us hl => match us, hl with | [_, _], _ => rfl
  exact ⟨_, fd, [], o_check_feed Z F, (He.glo_ok Z.X Z.G (Z.k.fact 52 (f := .glo "check_feed") rfl)), F.kp, b, .nil⟩
theorem sc_state_from : FnScope [("control" : Str), "state", "feed", "current", "cue"] [("control" : Str), "state", "feed"] (defScope s_state_from) := ⟨rfl, rfl, rfl, by decide +kernel, rfl, by decide +kernel, by decide +kernel⟩
theorem o_state_from {P : Program} {w : World} {K : PySem.W.Frag} {mg : Str → Option Value} {base : Heap} (Z : Zz P w K mg base) {fd : FuncData} (F : FunD K dd_state_from.name dd_state_from.qual dd_state_from.params dd_state_from.body dd_state_from.scope (dd_state_from.dvs K) (dd_state_from.kws K) (He.fAd K dd_state_from.at_) fd) : FnOk P w K mg base (L2.CX P w) 2 (He.fAd K dd_state_from.at_) fd [("control" : Str), "state", "feed"] (sp_state_from K) := by
  refine F.ok sc_state_from (fun vs H Q E h => ?_) (fun cdv A outer s H vs Q E hr h => ⟨t_state_from K E, PSs.nox ?_, pure_state_from Z.k vs H Q E h⟩)
  · obtain ⟨_, _, _, _, _, _, _, _, e, _⟩ := h; rw [e]; rfl
  · exact pss_cons (ps_set (i := 3) sc_state_from.nd rfl (by first | exact Or.inl rfl | exact Or.inr rfl) (pv 1)) (pss_cons (ps_for PassesOwn.never rfl (pi_sq1 (pv 2)) (pg_name (i := 4) sc_state_from.nd rfl (by first | exact Or.inl rfl | exact Or.inr rfl)) (pss_one (ps_set (i := 3) sc_state_from.nd rfl (by first | exact Or.inl rfl | exact Or.inr rfl) (pe_ix ix_1 (pe_methM (d_Control_entry Z) (hr.mono (by first | decide | exact Nat.le_refl _)) passL (pv 0) (pa_cons (pv 3) (pa_cons (pv 4) (pa_nil)))) (pe_int) (fun _ _ => rfl))))) (pss_one (ps_ret (pv 3))))
theorem d_state_from {P : Program} {w : World} {K : PySem.W.Frag} {mg : Str → Option Value} {base : Heap} (Z : Zz P w K mg base) : DefOk P w K mg base "state_from" 2 [("control" : Str), "state", "feed"] [] (sp_state_from K) := by
  obtain ⟨fd, F⟩ := Z.c.def_ 1 (d := dd_state_from) rfl
  have b := F.bindsN (ps := [("control" : Str), "state", "feed"]) fun _ _ _ _ _ _ us hl => match us, hl with | [_, _, _], _ => rfl
  exact ⟨_, fd, [], o_state_from Z F, (He.glo_ok Z.X Z.G (Z.k.fact 53 (f := .glo "state_from") rfl)), F.kp, b, .nil⟩
theorem sc_Search__init : FnScope [("self" : Str), "first"] [("self" : Str), "first"] (defScope s_Search__init) := ⟨rfl, rfl, rfl, by decide +kernel, rfl, by decide +kernel, by decide +kernel⟩
theorem o_Search__init {P : Program} {w : World} {K : PySem.W.Frag} {mg : Str → Option Value} {base : Heap} (Z : Zz P w K mg base) {fd : FuncData} (F : FunD K dd_Search__init.name dd_Search__init.qual dd_Search__init.params dd_Search__init.body dd_Search__init.scope (dd_Search__init.dvs K) (dd_Search__init.kws K) (He.fAd K dd_Search__init.at_) fd) : FnOk P w K mg base (L2.CX P w) 1 (He.fAd K dd_Search__init.at_) fd [("self" : Str), "first"] (sp_Search__init K) := by
  refine F.ok sc_Search__init (fun vs H Q E h => ?_) (fun cdv A outer s H vs Q E hr h => ⟨t_Search__init K E, PSs.nox ?_, pure_Search__init Z.k vs H Q E h⟩)
  · obtain ⟨_, _, _, _, _, _, e, _⟩ := h; rw [e]; rfl
  · exact pss_cons (ps_fld (pv 0) (pe_lst (pa_cons (pv 1) (pa_nil))) rfl) (pss_one (ps_fld (pv 0) (pe_dispT1 (by have q := hu1 hr; exact Nat.lt_of_succ_lt q) (pv 1) (pe_non)) rfl))
theorem mk_Search__init {P : Program} {w : World} {K : PySem.W.Frag} {mg : Str → Option Value} {base : Heap} (Z : Zz P w K mg base) : MakeOk P w K mg base "Search" 1 [("self" : Str), "first"] [] (sp_Search__init K) := by
  obtain ⟨fd, F⟩ := Z.c.def_ 5 (d := dd_Search__init) rfl
  have b := F.bindsN (ps := [("self" : Str), "first"]) fun _ _ _ _ _ _ us hl => match us, hl with | [_, _], _ => rfl
  exact ⟨fd, [], (He.mkr_ok (Z.k.fact 17 (f := .mkr "Search") rfl)), (He.glo_ok Z.X Z.G (Z.k.fact 18 (f := .glo "Search") rfl)), o_Search__init Z F, b, .nil⟩
theorem sc_Search_take : FnScope [("self" : Str), "place", "before", "cue"] [("self" : Str), "place", "before", "cue"] (defScope s_Search_take) := ⟨rfl, rfl, rfl, by decide +kernel, rfl, by decide +kernel, by decide +kernel⟩
theorem o_Search_take {P : Program} {w : World} {K : PySem.W.Frag} {mg : Str → Option Value} {base : Heap} (Z : Zz P w K mg base) {fd : FuncData} (F : FunD K dd_Search_take.name dd_Search_take.qual dd_Search_take.params dd_Search_take.body dd_Search_take.scope (dd_Search_take.dvs K) (dd_Search_take.kws K) (He.fAd K dd_Search_take.at_) fd) : FnOk P w K mg base (L2.CX P w) 1 (He.fAd K dd_Search_take.at_) fd [("self" : Str), "place", "before", "cue"] (sp_Search_take K) := by
  refine F.ok sc_Search_take (fun vs H Q E h => ?_) (fun cdv A outer s H vs Q E hr h => ⟨t_Search_take K E, PSs.nox ?_, pure_Search_take Z.k vs H Q E h⟩)
  · obtain ⟨_, _, _, _, _, _, _, _, _, _, _, _, e, _⟩ := h; rw [e]; rfl
  · exact pss_one (ps_if (pt_cmp (pc_dnotin (hu1 hr) (pv 1) (pe_fld (pv 0) (by rfl)))) (pss_cons (ps_dput (hu1 hr) (pe_fld (pv 0) (by rfl)) (pv 1) (pe_tup (pa_cons (pv 2) (pa_cons (pv 3) (pa_nil)))) rfl) (pss_one (ps_expr (pe_bm PySem.F.plainAttrs_list PySem.F.slot_list_append PySem.F.type_list_append mt_append (pe_fld (pv 0) (by rfl)) (pa_cons (pv 1) (pa_nil)))))) (pss_nil))
theorem d_Search_take {P : Program} {w : World} {K : PySem.W.Frag} {mg : Str → Option Value} {base : Heap} (Z : Zz P w K mg base) : MethOk P w K mg base (He.ga K "Search") "take" 1 [("self" : Str), "place", "before", "cue"] [] (sp_Search_take K) := by
  obtain ⟨fd, F⟩ := Z.c.def_ 6 (d := dd_Search_take) rfl
  have b := F.bindsN (ps := [("self" : Str), "place", "before", "cue"]) fun _ _ _ _ _ _ us hl => match us, hl with | [_, _, _, _], _ => rfl
  exact ⟨fd, [], (He.cls_ok (Z.k.fact 12 (f := .cls "Search") rfl)), (He.meth_ok (Z.k.fact 16 (f := .meth "Search" "take") rfl)), o_Search_take Z F, b, .nil⟩
theorem sc_Search_feed_to : FnScope [("self" : Str), "place", "cues", "origin", "before", "cue"] [("self" : Str), "place"] (defScope s_Search_feed_to) := ⟨rfl, rfl, rfl, by decide +kernel, rfl, by decide +kernel, by decide +kernel⟩
theorem o_Search_feed_to {P : Program} {w : World} {K : PySem.W.Frag} {mg : Str → Option Value} {base : Heap} (Z : Zz P w K mg base) {fd : FuncData} (F : FunD K dd_Search_feed_to.name dd_Search_feed_to.qual dd_Search_feed_to.params dd_Search_feed_to.body dd_Search_feed_to.scope (dd_Search_feed_to.dvs K) (dd_Search_feed_to.kws K) (He.fAd K dd_Search_feed_to.at_) fd) : FnOk P w K mg base (L2.CX P w) 1 (He.fAd K dd_Search_feed_to.at_) fd [("self" : Str), "place"] (sp_Search_feed_to K) := by
  refine F.ok sc_Search_feed_to (fun vs H Q E h => ?_) (fun cdv A outer s H vs Q E hr h => ⟨t_Search_feed_to K E, PSs.nox ?_, pure_Search_feed_to Z.k vs H Q E h⟩)
  · obtain ⟨_, _, _, _, _, _, _, _, e, _⟩ := h; rw [e]; rfl
  · exact pss_cons (ps_set (i := 2) sc_Search_feed_to.nd rfl (by first | exact Or.inl rfl | exact Or.inr rfl) (pe_lst (pa_nil))) (pss_cons (ps_set (i := 3) sc_Search_feed_to.nd rfl (by first | exact Or.inl rfl | exact Or.inr rfl) (pe_dget (hu1 hr) (pe_fld (pv 0) (by rfl)) (pv 1) (fun _ _ => rfl))) (pss_cons (ps_while PassesOwn.never (pt_cmpR op_isNot1 (pv 3) (pe_non) (nomark _)) (pss_cons (ps_asg (pv 3) (pg_tup rfl (pgs_cons (pg_name (i := 4) sc_Search_feed_to.nd rfl (by first | exact Or.inl rfl | exact Or.inr rfl)) (pgs_cons (pg_name (i := 5) sc_Search_feed_to.nd rfl (by first | exact Or.inl rfl | exact Or.inr rfl)) (pgs_nil))))) (pss_cons (ps_expr (pe_bm PySem.F.plainAttrs_list PySem.F.slot_list_append PySem.F.type_list_append mt_append (pv 2) (pa_cons (pv 5) (pa_nil)))) (pss_one (ps_set (i := 3) sc_Search_feed_to.nd rfl (by first | exact Or.inl rfl | exact Or.inr rfl) (pe_dget (hu1 hr) (pe_fld (pv 0) (by rfl)) (pv 4) (fun _ _ => rfl))))))) (pss_cons (ps_expr (pe_bm0 PySem.F.plainAttrs_list PySem.F.slot_list_reverse PySem.F.type_list_reverse mt_reverse (pv 2))) (pss_one (ps_ret (pe_callTy call_tuple1 (by rfl) (He.free_ok Z.X Z.G (Z.k.fact 7 (f := .free "tuple") rfl)) (by decide +kernel) (pa_cons (pv 2) (pa_nil))))))))
theorem d_Search_feed_to {P : Program} {w : World} {K : PySem.W.Frag} {mg : Str → Option Value} {base : Heap} (Z : Zz P w K mg base) : MethOk P w K mg base (He.ga K "Search") "feed_to" 1 [("self" : Str), "place"] [] (sp_Search_feed_to K) := by
  obtain ⟨fd, F⟩ := Z.c.def_ 7 (d := dd_Search_feed_to) rfl
  have b := F.bindsN (ps := [("self" : Str), "place"]) fun _ _ _ _ _ _ us hl => match us, hl with | [_, _], _ => rfl
  exact ⟨fd, [], (He.cls_ok (Z.k.fact 12 (f := .cls "Search") rfl)), (He.meth_ok (Z.k.fact 21 (f := .meth "Search" "feed_to") rfl)), o_Search_feed_to Z F, b, .nil⟩
theorem sc_ordered : FnScope [("first" : Str), "second"] [("first" : Str), "second"] (defScope s_ordered) := ⟨rfl, rfl, rfl, by decide +kernel, rfl, by decide +kernel, by decide +kernel⟩
theorem o_ordered {P : Program} {w : World} {K : PySem.W.Frag} {mg : Str → Option Value} {base : Heap} (Z : Zz P w K mg base) {fd : FuncData} (F : FunD K dd_ordered.name dd_ordered.qual dd_ordered.params dd_ordered.body dd_ordered.scope (dd_ordered.dvs K) (dd_ordered.kws K) (He.fAd K dd_ordered.at_) fd) : FnOk P w K mg base (L2.CX P w) 1 (He.fAd K dd_ordered.at_) fd [("first" : Str), "second"] (sp_ordered K) := by
  refine F.ok sc_ordered (fun vs H Q E h => ?_) (fun cdv A outer s H vs Q E hr h => ⟨t_ordered K E, PSs.nox ?_, pure_ordered Z.k vs H Q E h⟩)
  · obtain ⟨_, _, _, _, e, _⟩ := h; rw [e]; rfl
  · exact pss_cons (ps_if (pt_cmpR op_le (pv 0) (pv 1) (nomark _)) (pss_one (ps_ret (pe_tup (pa_cons (pv 0) (pa_cons (pv 1) (pa_nil)))))) (pss_nil)) (pss_one (ps_ret (pe_tup (pa_cons (pv 1) (pa_cons (pv 0) (pa_nil))))))
theorem d_ordered {P : Program} {w : World} {K : PySem.W.Frag} {mg : Str → Option Value} {base : Heap} (Z : Zz P w K mg base) : DefOk P w K mg base "_ordered" 1 [("first" : Str), "second"] [] (sp_ordered K) := by
  obtain ⟨fd, F⟩ := Z.c.def_ 8 (d := dd_ordered) rfl
  have b := F.bindsN (ps := [("first" : Str), "second"]) fun _ _ _ _ _ _ us hl => match us, hl with | [_, _], _ => rfl
  exact ⟨_, fd, [], o_ordered Z F, (He.glo_ok Z.X Z.G (Z.k.fact 55 (f := .glo "_ordered") rfl)), F.kp, b, .nil⟩
theorem sc_following : FnScope [("control" : Str), "pair", "cue"] [("control" : Str), "pair", "cue"] (defScope s_following) := ⟨rfl, rfl, rfl, by decide +kernel, rfl, by decide +kernel, by decide +kernel⟩
theorem o_following {P : Program} {w : World} {K : PySem.W.Frag} {mg : Str → Option Value} {base : Heap} (Z : Zz P w K mg base) {fd : FuncData} (F : FunD K dd_following.name dd_following.qual dd_following.params dd_following.body dd_following.scope (dd_following.dvs K) (dd_following.kws K) (He.fAd K dd_following.at_) fd) : FnOk P w K mg base (L2.CX P w) 2 (He.fAd K dd_following.at_) fd [("control" : Str), "pair", "cue"] (sp_following K) := by
  refine F.ok sc_following (fun vs H Q E h => ?_) (fun cdv A outer s H vs Q E hr h => ⟨t_following K E, PSs.nox ?_, pure_following Z.k vs H Q E h⟩)
  · obtain ⟨_, _, _, _, _, _, _, e, _⟩ := h; rw [e]; rfl
  · exact pss_one (ps_ret (pe_def (d_ordered Z) (hr.mono (by first | decide | exact Nat.le_refl _)) (by rfl) passL (pa_cons (pe_ix ix_1 (pe_methM (d_Control_entry Z) (hr.mono (by first | decide | exact Nat.le_refl _)) passL (pv 0) (pa_cons (pe_ix ix_1 (pv 1) (pe_int) (fun _ _ => rfl)) (pa_cons (pv 2) (pa_nil)))) (pe_int) (fun _ _ => rfl)) (pa_cons (pe_ix ix_1 (pe_methM (d_Control_entry Z) (hr.mono (by first | decide | exact Nat.le_refl _)) passL (pv 0) (pa_cons (pe_ix ix_1 (pv 1) (pe_int) (fun _ _ => rfl)) (pa_cons (pv 2) (pa_nil)))) (pe_int) (fun _ _ => rfl)) (pa_nil)))))
theorem d_following {P : Program} {w : World} {K : PySem.W.Frag} {mg : Str → Option Value} {base : Heap} (Z : Zz P w K mg base) : DefOk P w K mg base "_following" 2 [("control" : Str), "pair", "cue"] [] (sp_following K) := by
  obtain ⟨fd, F⟩ := Z.c.def_ 9 (d := dd_following) rfl
  have b := F.bindsN (ps := [("control" : Str), "pair", "cue"]) fun _ _ _ _ _ _ us hl => match us, hl with | [_, _, _], _ => rfl
  exact ⟨_, fd, [], o_following Z F, (He.glo_ok Z.X Z.G (Z.k.fact 56 (f := .glo "_following") rfl)), F.kp, b, .nil⟩
theorem sc_merging_search : FnScope [("control" : Str), "pair", "search", "done", "current", "cue", "following"] [("control" : Str), "pair"] (defScope s_merging_search) := ⟨rfl, rfl, rfl, by decide +kernel, rfl, by decide +kernel, by decide +kernel⟩
theorem o_merging_search {P : Program} {w : World} {K : PySem.W.Frag} {mg : Str → Option Value} {base : Heap} (Z : Zz P w K mg base) {fd : FuncData} (F : FunD K dd_merging_search.name dd_merging_search.qual dd_merging_search.params dd_merging_search.body dd_merging_search.scope (dd_merging_search.dvs K) (dd_merging_search.kws K) (He.fAd K dd_merging_search.at_) fd) : FnOk P w K mg base (L2.CX P w) 3 (He.fAd K dd_merging_search.at_) fd [("control" : Str), "pair"] (sp_merging_search K) := by
  refine F.ok sc_merging_search (fun vs H Q E h => ?_) (fun cdv A outer s H vs Q E hr h => ⟨t_merging_search K E, PSs.nox ?_, pure_merging_search Z.k vs H Q E h⟩)
  · obtain ⟨_, _, _, _, _, _, e, _⟩ := h; rw [e]; rfl
  · exact pss_cons (ps_set (i := 2) sc_merging_search.nd rfl (by first | exact Or.inl rfl | exact Or.inr rfl) (pe_makeM (mk_Search__init Z) (hr.mono (by first | decide | exact Nat.le_refl _)) (by rfl) passL (pa_cons (pv 1) (pa_nil)))) (pss_cons (ps_set (i := 3) sc_merging_search.nd rfl (by first | exact Or.inl rfl | exact Or.inr rfl) (pe_int)) (pss_cons (ps_while PassesOwn.never (pt_cmpR op_lt (pv 3) (pe_callB call_len1 (by rfl) (He.free_ok Z.X Z.G (Z.k.fact 5 (f := .free "len") rfl)) (by decide +kernel) (pa_cons (pe_fld (pv 2) (by rfl)) (pa_nil))) (nomark _)) (pss_cons (ps_set (i := 4) sc_merging_search.nd rfl (by first | exact Or.inl rfl | exact Or.inr rfl) (pe_ix ix_1 (pe_fld (pv 2) (by rfl)) (pv 3) (fun _ _ => rfl))) (pss_cons (ps_for PassesOwn.never rfl (pi_range1 (by rfl) (He.free_ok Z.X Z.G (Z.k.fact 15 (f := .free "range") rfl)) (pa_cons (pe_fld (pv 0) (by rfl)) (pa_nil))) (pg_name (i := 5) sc_merging_search.nd rfl (by first | exact Or.inl rfl | exact Or.inr rfl)) (pss_cons (ps_set (i := 6) sc_merging_search.nd rfl (by first | exact Or.inl rfl | exact Or.inr rfl) (pe_def (d_following Z) (hr.mono (by first | decide | exact Nat.le_refl _)) (by rfl) passL (pa_cons (pv 0) (pa_cons (pv 4) (pa_cons (pv 5) (pa_nil)))))) (pss_cons (ps_expr (pe_methM (d_Search_take Z) (hr.mono (by first | decide | exact Nat.le_refl _)) passL (pv 2) (pa_cons (pv 6) (pa_cons (pv 4) (pa_cons (pv 5) (pa_nil)))))) (pss_one (ps_if (pt_cmpR (op_eq1 (hu64 hr)) (pe_ix ix_1 (pv 6) (pe_int) (fun _ _ => rfl)) (pe_ix ix_1 (pv 6) (pe_int) (fun _ _ => rfl)) (nomark _)) (pss_one (ps_ret (pe_tup (pa_cons (pv 2) (pa_cons (pv 6) (pa_nil)))))) (pss_nil)))))) (pss_one (ps_set (i := 3) sc_merging_search.nd rfl (by first | exact Or.inl rfl | exact Or.inr rfl) (pe_op op_add1 (pv 3) (pe_int))))))) (pss_one (ps_ret (pe_tup (pa_cons (pv 2) (pa_cons (pe_non) (pa_nil))))))))
theorem d_merging_search {P : Program} {w : World} {K : PySem.W.Frag} {mg : Str → Option Value} {base : Heap} (Z : Zz P w K mg base) : DefOk P w K mg base "_merging_search" 3 [("control" : Str), "pair"] [] (sp_merging_search K) := by
  obtain ⟨fd, F⟩ := Z.c.def_ 10 (d := dd_merging_search) rfl
  have b := F.bindsN (ps := [("control" : Str), "pair"]) fun _ _ _ _ _ _ us hl => match us, hl with | [_, _], _ => rfl
  exact ⟨_, fd, [], o_merging_search Z F, (He.glo_ok Z.X Z.G (Z.k.fact 57 (f := .glo "_merging_search") rfl)), F.kp, b, .nil⟩
theorem sc_reset_verdict : FnScope [("control" : Str), "feed", "places", "search", "merged", "added", "state"] [("control" : Str)] (defScope s_reset_verdict) := ⟨rfl, rfl, rfl, by decide +kernel, rfl, by decide +kernel, by decide +kernel⟩
theorem o_reset_verdict {P : Program} {w : World} {K : PySem.W.Frag} {mg : Str → Option Value} {base : Heap} (Z : Zz P w K mg base) {fd : FuncData} (F : FunD K dd_reset_verdict.name dd_reset_verdict.qual dd_reset_verdict.params dd_reset_verdict.body dd_reset_verdict.scope (dd_reset_verdict.dvs K) (dd_reset_verdict.kws K) (He.fAd K dd_reset_verdict.at_) fd) : FnOk P w K mg base (L2.CX P w) 4 (He.fAd K dd_reset_verdict.at_) fd [("control" : Str)] (sp_reset_verdict K) := by
  refine F.ok sc_reset_verdict (fun vs H Q E h => ?_) (fun cdv A outer s H vs Q E hr h => ⟨t_reset_verdict K E, PSs.nox ?_, pure_reset_verdict Z.k vs H Q E h⟩)
  · obtain ⟨_, _, _, _, e, _⟩ := h; rw [e]; rfl
  · exact pss_cons (ps_set (i := 1) sc_reset_verdict.nd rfl (by first | exact Or.inl rfl | exact Or.inr rfl) (pe_tup (pa_nil))) (pss_cons (ps_set (i := 2) sc_reset_verdict.nd rfl (by first | exact Or.inl rfl | exact Or.inr rfl) (pe_listRg rfl (by rfl) (He.free_ok Z.X Z.G (Z.k.fact 23 (f := .free "list") rfl)) (prg_1 (by rfl) (He.free_ok Z.X Z.G (Z.k.fact 15 (f := .free "range") rfl)) (pe_fld (pv 0) (by rfl))))) (pss_cons (ps_while PassesOwn.never (pt_cmpR op_gt (pe_callB call_len1 (by rfl) (He.free_ok Z.X Z.G (Z.k.fact 5 (f := .free "len") rfl)) (by decide +kernel) (pa_cons (pv 2) (pa_nil))) (pe_int) (nomark _)) (pss_cons (ps_asg (pe_def (d_merging_search Z) (hr.mono (by first | decide | exact Nat.le_refl _)) (by rfl) passL (pa_cons (pv 0) (pa_cons (pe_tup (pa_cons (pe_ix ix_1 (pv 2) (pe_int) (fun _ _ => rfl)) (pa_cons (pe_ix ix_1 (pv 2) (pe_int) (fun _ _ => rfl)) (pa_nil)))) (pa_nil)))) (pg_tup rfl (pgs_cons (pg_name (i := 3) sc_reset_verdict.nd rfl (by first | exact Or.inl rfl | exact Or.inr rfl)) (pgs_cons (pg_name (i := 4) sc_reset_verdict.nd rfl (by first | exact Or.inl rfl | exact Or.inr rfl)) (pgs_nil))))) (pss_cons (ps_if (pt_cmpR op_is1 (pv 4) (pe_non) (nomark _)) (pss_one (ps_ret (pe_tup (pa_cons (pe_str_g (by rfl) (He.str_ok Z.X Z.G (Z.k.fact 22 (f := .str "NEVER" "never") rfl))) (pa_cons (pe_callTy call_tuple1 (by rfl) (He.free_ok Z.X Z.G (Z.k.fact 7 (f := .free "tuple") rfl)) (by decide +kernel) (pa_cons (pe_fld (pv 3) (by rfl)) (pa_nil))) (pa_nil)))))) (pss_nil)) (pss_cons (ps_set (i := 5) sc_reset_verdict.nd rfl (by first | exact Or.inl rfl | exact Or.inr rfl) (pe_methM (d_Search_feed_to Z) (hr.mono (by first | decide | exact Nat.le_refl _)) passL (pv 3) (pa_cons (pv 4) (pa_nil)))) (pss_cons (ps_set (i := 1) sc_reset_verdict.nd rfl (by first | exact Or.inl rfl | exact Or.inr rfl) (pe_op op_add1 (pv 1) (pv 5))) (pss_one (ps_set (i := 2) sc_reset_verdict.nd rfl (by first | exact Or.inl rfl | exact Or.inr rfl) (pe_weak (pe_callB (L2.cr_sortedSet rfl) (by rfl) (He.free_ok Z.X Z.G (Z.k.fact 20 (f := .free "sorted") rfl)) (by decide +kernel) (pa_cons (pe_scI (own := [("state", 6)]) rfl sc_reset_verdict.nd (pi_sq1 (pv 2)) (blkOk_by (N := [("control" : Str), "feed", "places", "search", "merged", "added", "state"]) (sc := defScope s_reset_verdict) (by decide +kernel)) (fun _ _ _ _ _ => pg_name (i := 6) sc_reset_verdict.nd rfl (by first | exact Or.inl rfl | exact Or.inr rfl)) (fun _ _ _ _ _ => pts_nil) (fun _ _ _ _ _ => pe_def (d_state_from Z) (hr.mono (by first | decide | exact Nat.le_refl _)) (by rfl) passL (pa_cons (pv 0) (pa_cons (pv 6) (pa_cons (pv 5) (pa_nil)))))) pa_nil)) (fun _ _ _ h => h _))))))))) (pss_one (ps_ret (pe_tup (pa_cons (pe_str_g (by rfl) (He.str_ok Z.X Z.G (Z.k.fact 19 (f := .str "RESETS" "resets") rfl))) (pa_cons (pv 1) (pa_nil))))))))
theorem d_reset_verdict {P : Program} {w : World} {K : PySem.W.Frag} {mg : Str → Option Value} {base : Heap} (Z : Zz P w K mg base) : DefOk P w K mg base "reset_verdict" 4 [("control" : Str)] [] (sp_reset_verdict K) := by
  obtain ⟨fd, F⟩ := Z.c.def_ 11 (d := dd_reset_verdict) rfl
  have b := F.bindsN (ps := [("control" : Str)]) fun _ _ _ _ _ _ us hl => match us, hl with | [_], _ => rfl
  exact ⟨_, fd, [], o_reset_verdict Z F, (He.glo_ok Z.X Z.G (Z.k.fact 58 (f := .glo "reset_verdict") rfl)), F.kp, b, .nil⟩
theorem sc_shows_reset : FnScope [("control" : Str), "feed", "state"] [("control" : Str), "feed"] (defScope s_shows_reset) := ⟨rfl, rfl, rfl, by decide +kernel, rfl, by decide +kernel, by decide +kernel⟩
theorem o_shows_reset {P : Program} {w : World} {K : PySem.W.Frag} {mg : Str → Option Value} {base : Heap} (Z : Zz P w K mg base) {fd : FuncData} (F : FunD K dd_shows_reset.name dd_shows_reset.qual dd_shows_reset.params dd_shows_reset.body dd_shows_reset.scope (dd_shows_reset.dvs K) (dd_shows_reset.kws K) (He.fAd K dd_shows_reset.at_) fd) : FnOk P w K mg base (L2.CX P w) 4 (He.fAd K dd_shows_reset.at_) fd [("control" : Str), "feed"] (sp_shows_reset K) := by
  refine F.ok sc_shows_reset (fun vs H Q E h => ?_) (fun cdv A outer s H vs Q E hr h => ⟨t_shows_reset K E, ?_, pure_shows_reset Z.k vs H Q E h⟩)
  · obtain ⟨_, _, _, _, _, _, _, e, _⟩ := h; rw [e]; rfl
  · exact pss_cons (ps_expr (pe_def (d_check_feed Z) (hr.mono (by first | decide | exact Nat.le_refl _)) (by rfl) (passes_call (takes_of rfl rfl rfl rfl) fun _ _ _ _ h => h) (pa_cons (pe_fld (pv 0) (by rfl)) (pa_cons (pv 1) (pa_nil))))) (pss_one (ps_ret (pe_cmpR (op_eq1 (hu64 hr)) (pe_weak (pe_callB call_lenSet (by rfl) (He.free_ok Z.X Z.G (Z.k.fact 5 (f := .free "len") rfl)) (by decide +kernel) (pa_cons (pe_scI (own := [("state", 2)]) rfl sc_shows_reset.nd (pi_range1 (by rfl) (He.free_ok Z.X Z.G (Z.k.fact 15 (f := .free "range") rfl)) (pa_cons (pe_fld (pv 0) (by rfl)) (pa_nil))) (blkOk_by (N := [("control" : Str), "feed", "state"]) (sc := defScope s_shows_reset) (by decide +kernel)) (fun _ _ _ _ _ => pg_name (i := 2) sc_shows_reset.nd rfl (by first | exact Or.inl rfl | exact Or.inr rfl)) (fun _ _ _ _ _ => pts_nil) (fun _ _ _ _ _ => pe_def (d_state_from Z) (hr.mono (by first | decide | exact Nat.le_refl _)) (by rfl) passL (pa_cons (pv 0) (pa_cons (pv 2) (pa_cons (pv 1) (pa_nil)))))) pa_nil)) (fun _ _ _ h => h _)) (pe_int) (nomark _))))
theorem d_shows_reset {P : Program} {w : World} {K : PySem.W.Frag} {mg : Str → Option Value} {base : Heap} (Z : Zz P w K mg base) : DefOk P w K mg base "shows_reset" 4 [("control" : Str), "feed"] [] (sp_shows_reset K) := by
  obtain ⟨fd, F⟩ := Z.c.def_ 12 (d := dd_shows_reset) rfl
  have b := F.bindsN (ps := [("control" : Str), "feed"]) fun _ _ _ _ _ _ us hl => match us, hl with | [_, _], _ => rfl
  exact ⟨_, fd, [], o_shows_reset Z F, (He.glo_ok Z.X Z.G (Z.k.fact 59 (f := .glo "shows_reset") rfl)), F.kp, b, .nil⟩
theorem sc_shows_never : FnScope [("control" : Str), "pairs", "known", "first", "second", "pair", "cue"] [("control" : Str), "pairs"] (defScope s_shows_never) := ⟨rfl, rfl, rfl, by decide +kernel, rfl, by decide +kernel, by decide +kernel⟩
theorem o_shows_never {P : Program} {w : World} {K : PySem.W.Frag} {mg : Str → Option Value} {base : Heap} (Z : Zz P w K mg base) {fd : FuncData} (F : FunD K dd_shows_never.name dd_shows_never.qual dd_shows_never.params dd_shows_never.body dd_shows_never.scope (dd_shows_never.dvs K) (dd_shows_never.kws K) (He.fAd K dd_shows_never.at_) fd) : FnOk P w K mg base (L2.CX P w) 3 (He.fAd K dd_shows_never.at_) fd [("control" : Str), "pairs"] (sp_shows_never K) := by
  refine F.ok sc_shows_never (fun vs H Q E h => ?_) (fun cdv A outer s H vs Q E hr h => ⟨t_shows_never K E, PSs.nox ?_, pure_shows_never Z.k vs H Q E h⟩)
  · obtain ⟨_, _, _, _, _, _, _, _, e, _⟩ := h; rw [e]; rfl
  · exact pss_cons (ps_setDcG (κ := kindT) (i := 2) (own := [("first", 3), ("second", 4)]) (by have q := hu1 hr; exact Nat.lt_of_succ_lt q) rfl sc_shows_never.nd rfl rfl (swD_true rfl rfl rfl (by decide +kernel)) (pi_sq1 (pv 1)) (blkOk_by (N := [("control" : Str), "pairs", "known", "first", "second", "pair", "cue"]) (sc := defScope s_shows_never) (by decide +kernel)) (fun _ _ _ _ _ => pg_tup rfl (pgs_cons (pg_name (i := 3) sc_shows_never.nd rfl (by first | exact Or.inl rfl | exact Or.inr rfl)) (pgs_cons (pg_name (i := 4) sc_shows_never.nd rfl (by first | exact Or.inl rfl | exact Or.inr rfl)) (pgs_nil)))) (fun _ _ _ _ _ => pts_nil) (fun _ _ _ _ _ => pe_def (d_ordered Z) (hr.mono (by first | decide | exact Nat.le_refl _)) (by rfl) passL (pa_cons (pv 3) (pa_cons (pv 4) (pa_nil)))) (fun _ _ _ _ _ => pe_bl)) (pss_cons (ps_lock (ps_for PassesOwn.never rfl (pi_keys (pv 2)) (pg_name (i := 5) sc_shows_never.nd rfl (by first | exact Or.inl rfl | exact Or.inr rfl)) (pss_cons (ps_if (PW.pt (pw_or (pt_cmpR op_lt (pe_ix ix_1 (pv 5) (pe_int) (fun _ _ => rfl)) (pe_int) (nomark _)) (pw_or (pt_cmpR op_ge (pe_ix ix_1 (pv 5) (pe_int) (fun _ _ => rfl)) (pe_fld (pv 0) (by rfl)) (nomark _)) (pw_or1 (pt_cmpR (op_eq1 (hu64 hr)) (pe_ix ix_1 (pv 5) (pe_int) (fun _ _ => rfl)) (pe_ix ix_1 (pv 5) (pe_int) (fun _ _ => rfl)) (nomark _)))))) (pss_one (ps_ret (pe_bl))) (pss_nil)) (pss_one (ps_for PassesOwn.never rfl (pi_range1 (by rfl) (He.free_ok Z.X Z.G (Z.k.fact 15 (f := .free "range") rfl)) (pa_cons (pe_fld (pv 0) (by rfl)) (pa_nil))) (pg_name (i := 6) sc_shows_never.nd rfl (by first | exact Or.inl rfl | exact Or.inr rfl)) (pss_one (ps_if (pt_cmp (pc_dnotin (hu1 hr) (pe_def (d_following Z) (hr.mono (by first | decide | exact Nat.le_refl _)) (by rfl) passL (pa_cons (pv 0) (pa_cons (pv 5) (pa_cons (pv 6) (pa_nil))))) (pv 2))) (pss_one (ps_ret (pe_bl))) (pss_nil)))))))) (pss_one (ps_ret (pe_cmpR op_gt (pe_callB call_lenD1 (by rfl) (He.free_ok Z.X Z.G (Z.k.fact 5 (f := .free "len") rfl)) (by decide +kernel) (pa_cons (pv 2) (pa_nil))) (pe_int) (nomark _)))))
theorem d_shows_never {P : Program} {w : World} {K : PySem.W.Frag} {mg : Str → Option Value} {base : Heap} (Z : Zz P w K mg base) : DefOk P w K mg base "shows_never" 3 [("control" : Str), "pairs"] [] (sp_shows_never K) := by
  obtain ⟨fd, F⟩ := Z.c.def_ 13 (d := dd_shows_never) rfl
  have b := F.bindsN (ps := [("control" : Str), "pairs"]) fun _ _ _ _ _ _ us hl => match us, hl with | [_, _], _ => rfl
  exact ⟨_, fd, [], o_shows_never Z F, (He.glo_ok Z.X Z.G (Z.k.fact 60 (f := .glo "shows_never") rfl)), F.kp, b, .nil⟩
theorem sc_law_pool : FnScope [("script" : Str), "place", "cell"] [("script" : Str), "place"] (defScope s_law_pool) := ⟨rfl, rfl, rfl, by decide +kernel, rfl, by decide +kernel, by decide +kernel⟩
theorem o_law_pool {P : Program} {w : World} {K : PySem.W.Frag} {mg : Str → Option Value} {base : Heap} (Z : Zz P w K mg base) {fd : FuncData} (F : FunD K dd_law_pool.name dd_law_pool.qual dd_law_pool.params dd_law_pool.body dd_law_pool.scope (dd_law_pool.dvs K) (dd_law_pool.kws K) (He.fAd K dd_law_pool.at_) fd) : FnOk P w K mg base (L2.CX P w) 1 (He.fAd K dd_law_pool.at_) fd [("script" : Str), "place"] (sp_law_pool K) := by
  refine F.ok sc_law_pool (fun vs H Q E h => ?_) (fun cdv A outer s H vs Q E hr h => ⟨t_law_pool K E, PSs.nox ?_, pure_law_pool Z.k vs H Q E h⟩)
  · obtain ⟨_, _, _, e, _⟩ := h; rw [e]; rfl
  · exact pss_cons (ps_if (pt_cmpR (op_eq1 (hu64 hr)) (pe_callB call_len1 (by rfl) (He.free_ok Z.X Z.G (Z.k.fact 5 (f := .free "len") rfl)) (by decide +kernel) (pa_cons (pv 0) (pa_nil))) (pe_int) (nomark _)) (pss_one (ps_ret (pe_lst (pa_cons (pe_int) (pa_cons (pe_int) (pa_cons (pe_int) (pa_cons (pe_int) (pa_nil)))))))) (pss_nil)) (pss_cons (ps_set (i := 2) sc_law_pool.nd rfl (by first | exact Or.inl rfl | exact Or.inr rfl) (pe_callB call_abs1 (by rfl) (He.free_ok Z.X Z.G (Z.k.fact 25 (f := .free "abs") rfl)) (by decide +kernel) (pa_cons (pe_ix ix_1 (pv 0) (pe_op op_mod1 (pe_callTy call_int_1 (by rfl) (He.free_ok Z.X Z.G (Z.k.fact 24 (f := .free "int") rfl)) (by decide +kernel) (pa_cons (pv 1) (pa_nil))) (pe_callB call_len1 (by rfl) (He.free_ok Z.X Z.G (Z.k.fact 5 (f := .free "len") rfl)) (by decide +kernel) (pa_cons (pv 0) (pa_nil)))) (fun _ _ => rfl)) (pa_nil)))) (pss_cons (ps_if (PW.pt (pw_and (pt_cmpR op_lt (pv 1) (pe_callB call_len1 (by rfl) (He.free_ok Z.X Z.G (Z.k.fact 5 (f := .free "len") rfl)) (by decide +kernel) (pa_cons (pv 0) (pa_nil))) (nomark _)) (pw_and1 (pt_cmpR op_ge (pv 2) (pe_op op_pow1 (pe_int) (pe_int)) (nomark _))))) (pss_one (ps_ret (pe_lst (pa_cons (pe_int) (pa_cons (pv 2) (pa_cons (pe_op op_mod1 (pe_callTy call_int_1 (by rfl) (He.free_ok Z.X Z.G (Z.k.fact 24 (f := .free "int") rfl)) (by decide +kernel) (pa_cons (pv 2) (pa_nil))) (pe_int)) (pa_cons (pe_int) (pa_nil)))))))) (pss_nil)) (pss_one (ps_ret (pe_lst (pa_cons (pe_int) (pa_cons (pe_int) (pa_cons (pe_op op_mod1 (pe_callTy call_int_1 (by rfl) (He.free_ok Z.X Z.G (Z.k.fact 24 (f := .free "int") rfl)) (by decide +kernel) (pa_cons (pe_op op_add1 (pv 2) (pe_op op_mul1 (pe_int) (pv 1))) (pa_nil))) (pe_int)) (pa_cons (pe_int) (pa_nil))))))))))
theorem d_law_pool {P : Program} {w : World} {K : PySem.W.Frag} {mg : Str → Option Value} {base : Heap} (Z : Zz P w K mg base) : DefOk P w K mg base "_law_pool" 1 [("script" : Str), "place"] [] (sp_law_pool K) := by
  obtain ⟨fd, F⟩ := Z.c.def_ 14 (d := dd_law_pool) rfl
  have b := F.bindsN (ps := [("script" : Str), "place"]) fun _ _ _ _ _ _ us hl => match us, hl with | [_, _], _ => rfl
  exact ⟨_, fd, [], o_law_pool Z F, (He.glo_ok Z.X Z.G (Z.k.fact 61 (f := .glo "_law_pool") rfl)), F.kp, b, .nil⟩
theorem sc_law_draw : FnScope [("pool" : Str), "many", "got", "x"] [("pool" : Str), "many"] (defScope s_law_draw) := ⟨rfl, rfl, rfl, by decide +kernel, rfl, by decide +kernel, by decide +kernel⟩
theorem o_law_draw {P : Program} {w : World} {K : PySem.W.Frag} {mg : Str → Option Value} {base : Heap} (Z : Zz P w K mg base) {fd : FuncData} (F : FunD K dd_law_draw.name dd_law_draw.qual dd_law_draw.params dd_law_draw.body dd_law_draw.scope (dd_law_draw.dvs K) (dd_law_draw.kws K) (He.fAd K dd_law_draw.at_) fd) : FnOk P w K mg base (L2.CX P w) 1 (He.fAd K dd_law_draw.at_) fd [("pool" : Str), "many"] (sp_law_draw K) := by
  refine F.ok sc_law_draw (fun vs H Q E h => ?_) (fun cdv A outer s H vs Q E hr h => ⟨t_law_draw K E, PSs.nox ?_, pure_law_draw Z.k vs H Q E h⟩)
  · obtain ⟨_, _, _, _, _, _, _, _, _, e, _⟩ := h; rw [e]; rfl
  · exact pss_cons (ps_asg (pe_op op_add1 (pe_ix ix_1 (pv 0) (pe_int) (fun _ _ => rfl)) (pe_int)) (pg_sub (pv 0) (pe_int) set_list)) (pss_cons (ps_if (pt_cmpR (op_eq1 (hu64 hr)) (pe_ix ix_1 (pv 0) (pe_int) (fun _ _ => rfl)) (pe_int) (nomark _)) (pss_one (ps_ret (pe_int))) (pss_nil)) (pss_cons (ps_if (PW.pt (pw_and (pt_cmpR (op_eq1 (hu64 hr)) (pe_ix ix_1 (pv 0) (pe_int) (fun _ _ => rfl)) (pe_int) (nomark _)) (pw_and (pt_cmpR op_le (pe_ix ix_1 (pv 0) (pe_int) (fun _ _ => rfl)) (pe_int) (nomark _)) (pw_and1 (pt_cmpR op_gt (pe_ix ix_1 (pv 0) (pe_int) (fun _ _ => rfl)) (pe_int) (nomark _)))))) (pss_cons (ps_set (i := 2) sc_law_draw.nd rfl (by first | exact Or.inl rfl | exact Or.inr rfl) (pe_op op_mod1 (pe_callTy call_int_1 (by rfl) (He.free_ok Z.X Z.G (Z.k.fact 24 (f := .free "int") rfl)) (by decide +kernel) (pa_cons (pe_ix ix_1 (pv 0) (pe_int) (fun _ _ => rfl)) (pa_nil))) (pv 1))) (pss_cons (ps_asg (pe_op op_fdivW (pe_ix ix_1 (pv 0) (pe_int) (fun _ _ => rfl)) (pv 1)) (pg_sub (pv 0) (pe_int) set_list)) (pss_one (ps_ret (pv 2))))) (pss_nil)) (pss_cons (ps_set (i := 3) sc_law_draw.nd rfl (by first | exact Or.inl rfl | exact Or.inr rfl) (pe_op op_mod1 (pe_callTy call_int_1 (by rfl) (He.free_ok Z.X Z.G (Z.k.fact 24 (f := .free "int") rfl)) (by decide +kernel) (pa_cons (pe_op op_add1 (pe_op op_add1 (pe_ix ix_1 (pv 0) (pe_int) (fun _ _ => rfl)) (pe_op op_mul1 (pe_int) (pe_ix ix_1 (pv 0) (pe_int) (fun _ _ => rfl)))) (pe_int)) (pa_nil))) (pe_int))) (pss_cons (ps_set (i := 3) sc_law_draw.nd rfl (by first | exact Or.inl rfl | exact Or.inr rfl) (pe_op op_mod1 (pe_callTy call_int_1 (by rfl) (He.free_ok Z.X Z.G (Z.k.fact 24 (f := .free "int") rfl)) (by decide +kernel) (pa_cons (pe_op op_add1 (pe_op op_add1 (pe_op op_mul1 (pv 3) (pv 3)) (pe_op op_mul1 (pe_int) (pe_ix ix_1 (pv 0) (pe_int) (fun _ _ => rfl)))) (pe_int)) (pa_nil))) (pe_int))) (pss_cons (ps_set (i := 3) sc_law_draw.nd rfl (by first | exact Or.inl rfl | exact Or.inr rfl) (pe_op op_mod1 (pe_callTy call_int_1 (by rfl) (He.free_ok Z.X Z.G (Z.k.fact 24 (f := .free "int") rfl)) (by decide +kernel) (pa_cons (pe_op op_add1 (pe_op op_add1 (pe_op op_mul1 (pv 3) (pv 3)) (pe_int)) (pe_ix ix_1 (pv 0) (pe_int) (fun _ _ => rfl))) (pa_nil))) (pe_int))) (pss_one (ps_ret (pe_op op_mod1 (pe_callTy call_int_1 (by rfl) (He.free_ok Z.X Z.G (Z.k.fact 24 (f := .free "int") rfl)) (by decide +kernel) (pa_cons (pe_op op_fdivW (pv 3) (pe_int)) (pa_nil))) (pv 1)))))))))
theorem d_law_draw {P : Program} {w : World} {K : PySem.W.Frag} {mg : Str → Option Value} {base : Heap} (Z : Zz P w K mg base) : DefOk P w K mg base "_law_draw" 1 [("pool" : Str), "many"] [] (sp_law_draw K) := by
  obtain ⟨fd, F⟩ := Z.c.def_ 15 (d := dd_law_draw) rfl
  have b := F.bindsN (ps := [("pool" : Str), "many"]) fun _ _ _ _ _ _ us hl => match us, hl with | [_, _], _ => rfl
  exact ⟨_, fd, [], o_law_draw Z F, (He.glo_ok Z.X Z.G (Z.k.fact 62 (f := .glo "_law_draw") rfl)), F.kp, b, .nil⟩
theorem sc_law_same : FnScope [("told" : Str), "due", "name", "k"] [("told" : Str), "due"] (defScope s_law_same) := ⟨rfl, rfl, rfl, by decide +kernel, rfl, by decide +kernel, by decide +kernel⟩
theorem d_law_same {P : Program} {w : World} {K : PySem.W.Frag} {mg : Str → Option Value} {base : Heap} (Z : Zz P w K mg base) : ∀ n : Nat, DefOk P w K mg base "_law_same" (n + 1) [("told" : Str), "due"] [] (sp_law_same n K) := by
  obtain ⟨fd, F⟩ := Z.c.def_ 16 (d := dd_law_same) rfl
  have b := F.bindsN (ps := [("told" : Str), "due"]) fun _ _ _ _ _ _ us hl => match us, hl with | [_, _], _ => rfl
  have key : ∀ (sp : Sp) (n m : Nat), DefOk P w K mg base "_law_same" m [("told" : Str), "due"] [] sp → (∀ vs H Q E i, n = i + 1 → sp_law_same i K vs H Q E → sp vs H Q E) → DefOk P w K mg base "_law_same" (m + 1) [("told" : Str), "due"] [] (sp_law_same n K) := by
    intro sp n m D hsp
    refine ⟨_, fd, [], F.ok sc_law_same (fun vs H Q E h => ?_) (fun cdv A outer s H vs Q E hr h => ⟨t_law_same K sp E, PSs.nox ?_, pure_law_same hsp vs H Q E h⟩), (He.glo_ok Z.X Z.G (Z.k.fact 63 (f := .glo "_law_same") rfl)), F.kp, b, .nil⟩
    · obtain ⟨_, _, _, e, _⟩ := h; rw [e]; rfl
    · exact pss_cons (ps_if (pt_cmpR op_is1 (pv 1) (pe_non) (nomark _)) (pss_one (ps_ret (pe_cmpR op_is1 (pv 0) (pe_non) (nomark _)))) (pss_nil)) (pss_cons (ps_if (pt_cmpR op_is1 (pv 1) (pe_bl) (nomark _)) (pss_one (ps_ret (pe_cmpR op_is1 (pv 0) (pe_bl) (nomark _)))) (pss_nil)) (pss_cons (ps_if (pt_cmpR op_is1 (pv 1) (pe_bl) (nomark _)) (pss_one (ps_ret (pe_cmpR op_is1 (pv 0) (pe_bl) (nomark _)))) (pss_nil)) (pss_cons (ps_if (pt_tr (pe_callB call_isi1 (by rfl) (He.free_ok Z.X Z.G (Z.k.fact 26 (f := .free "isinstance") rfl)) (by decide +kernel) (pa_cons (pv 1) (pa_cons (pe_bltn (v := .ty "int") (by rfl) (He.free_ok Z.X Z.G (Z.k.fact 24 (f := .free "int") rfl)) (by decide +kernel) rfl) (pa_nil)))) (by intro _; rfl)) (pss_one (ps_ret (pe_and (pe_callB call_isi1 (by rfl) (He.free_ok Z.X Z.G (Z.k.fact 26 (f := .free "isinstance") rfl)) (by decide +kernel) (pa_cons (pv 0) (pa_cons (pe_bltn (v := .ty "int") (by rfl) (He.free_ok Z.X Z.G (Z.k.fact 24 (f := .free "int") rfl)) (by decide +kernel) rfl) (pa_nil)))) (pe_and (pe_not (pe_callB call_isi1 (by rfl) (He.free_ok Z.X Z.G (Z.k.fact 26 (f := .free "isinstance") rfl)) (by decide +kernel) (pa_cons (pv 0) (pa_cons (pe_bltn (v := .ty "bool") (by rfl) (He.free_ok Z.X Z.G (Z.k.fact 29 (f := .free "bool") rfl)) (by decide +kernel) rfl) (pa_nil))))) (pe_one (pe_cmpR (op_eq1 (hu64 hr)) (pv 0) (pv 1) (nomark _))))))) (pss_nil)) (pss_cons (ps_if (pt_tr (pe_callB call_isi1 (by rfl) (He.free_ok Z.X Z.G (Z.k.fact 26 (f := .free "isinstance") rfl)) (by decide +kernel) (pa_cons (pv 1) (pa_cons (pe_bltn (v := .ty "str") (by rfl) (He.free_ok Z.X Z.G (Z.k.fact 28 (f := .free "str") rfl)) (by decide +kernel) rfl) (pa_nil)))) (by intro _; rfl)) (pss_one (ps_ret (pe_and (pe_callB call_isi1 (by rfl) (He.free_ok Z.X Z.G (Z.k.fact 26 (f := .free "isinstance") rfl)) (by decide +kernel) (pa_cons (pv 0) (pa_cons (pe_bltn (v := .ty "str") (by rfl) (He.free_ok Z.X Z.G (Z.k.fact 28 (f := .free "str") rfl)) (by decide +kernel) rfl) (pa_nil)))) (pe_one (pe_cmpR (op_eq1 (hu64 hr)) (pv 0) (pv 1) (nomark _)))))) (pss_nil)) (pss_cons (ps_if (pt_tr (pe_callB call_isi1 (by rfl) (He.free_ok Z.X Z.G (Z.k.fact 26 (f := .free "isinstance") rfl)) (by decide +kernel) (pa_cons (pv 1) (pa_cons (pe_bltn (v := .ty "dict") (by rfl) (He.free_ok Z.X Z.G (Z.k.fact 27 (f := .free "dict") rfl)) (by decide +kernel) rfl) (pa_nil)))) (by intro _; rfl)) (pss_cons (ps_if (PW.pt (pw_or (pt_not (pt_tr (pe_callB call_isi1 (by rfl) (He.free_ok Z.X Z.G (Z.k.fact 26 (f := .free "isinstance") rfl)) (by decide +kernel) (pa_cons (pv 0) (pa_cons (pe_bltn (v := .ty "dict") (by rfl) (He.free_ok Z.X Z.G (Z.k.fact 27 (f := .free "dict") rfl)) (by decide +kernel) rfl) (pa_nil)))) (by intro _; rfl))) (pw_or1 (pt_cmpR (op_ne1 (hu64 hr)) (pe_callB call_len1 (by rfl) (He.free_ok Z.X Z.G (Z.k.fact 5 (f := .free "len") rfl)) (by decide +kernel) (pa_cons (pv 0) (pa_nil))) (pe_callB call_len1 (by rfl) (He.free_ok Z.X Z.G (Z.k.fact 5 (f := .free "len") rfl)) (by decide +kernel) (pa_cons (pv 1) (pa_nil))) (nomark _))))) (pss_one (ps_ret (pe_bl))) (pss_nil)) (pss_cons (ps_for PassesOwn.never rfl (pi_sq1 (pv 1)) (pg_name (i := 2) sc_law_same.nd rfl (by first | exact Or.inl rfl | exact Or.inr rfl)) (pss_one (ps_if (PW.pt (pw_or (pt_cmpR op_notIn1 (pv 2) (pv 0) (by rfl)) (pw_or1 (pt_not (pt_tr (pe_def D (hr.mono (by first | decide | exact Nat.le_refl _)) (by rfl) passL (pa_cons (pe_ix ix_1 (pv 0) (pv 2) (fun _ _ => rfl)) (pa_cons (pe_ix ix_1 (pv 1) (pv 2) (fun _ _ => rfl)) (pa_nil)))) (by intro _; rfl)))))) (pss_one (ps_ret (pe_bl))) (pss_nil)))) (pss_one (ps_ret (pe_bl))))) (pss_nil)) (pss_cons (ps_if (PW.pt (pw_and (pt_tr (pe_callB call_isi1 (by rfl) (He.free_ok Z.X Z.G (Z.k.fact 26 (f := .free "isinstance") rfl)) (by decide +kernel) (pa_cons (pv 1) (pa_cons (pe_bltn (v := .ty "list") (by rfl) (He.free_ok Z.X Z.G (Z.k.fact 23 (f := .free "list") rfl)) (by decide +kernel) rfl) (pa_nil)))) (by intro _; rfl)) (pw_and1 (pt_not (pt_tr (pe_callB call_isi1 (by rfl) (He.free_ok Z.X Z.G (Z.k.fact 26 (f := .free "isinstance") rfl)) (by decide +kernel) (pa_cons (pv 0) (pa_cons (pe_bltn (v := .ty "list") (by rfl) (He.free_ok Z.X Z.G (Z.k.fact 23 (f := .free "list") rfl)) (by decide +kernel) rfl) (pa_nil)))) (by intro _; rfl)))))) (pss_one (ps_ret (pe_bl))) (pss_nil)) (pss_cons (ps_if (PW.pt (pw_and (pt_tr (pe_callB call_isi1 (by rfl) (He.free_ok Z.X Z.G (Z.k.fact 26 (f := .free "isinstance") rfl)) (by decide +kernel) (pa_cons (pv 1) (pa_cons (pe_bltn (v := .ty "tuple") (by rfl) (He.free_ok Z.X Z.G (Z.k.fact 7 (f := .free "tuple") rfl)) (by decide +kernel) rfl) (pa_nil)))) (by intro _; rfl)) (pw_and1 (pt_not (pt_tr (pe_callB call_isi1 (by rfl) (He.free_ok Z.X Z.G (Z.k.fact 26 (f := .free "isinstance") rfl)) (by decide +kernel) (pa_cons (pv 0) (pa_cons (pe_bltn (v := .ty "tuple") (by rfl) (He.free_ok Z.X Z.G (Z.k.fact 7 (f := .free "tuple") rfl)) (by decide +kernel) rfl) (pa_nil)))) (by intro _; rfl)))))) (pss_one (ps_ret (pe_bl))) (pss_nil)) (pss_cons (ps_if (pt_cmpR (op_ne1 (hu64 hr)) (pe_callB call_len1 (by rfl) (He.free_ok Z.X Z.G (Z.k.fact 5 (f := .free "len") rfl)) (by decide +kernel) (pa_cons (pv 0) (pa_nil))) (pe_callB call_len1 (by rfl) (He.free_ok Z.X Z.G (Z.k.fact 5 (f := .free "len") rfl)) (by decide +kernel) (pa_cons (pv 1) (pa_nil))) (nomark _)) (pss_one (ps_ret (pe_bl))) (pss_nil)) (pss_cons (ps_for PassesOwn.never rfl (pi_range1 (by rfl) (He.free_ok Z.X Z.G (Z.k.fact 15 (f := .free "range") rfl)) (pa_cons (pe_callB call_len1 (by rfl) (He.free_ok Z.X Z.G (Z.k.fact 5 (f := .free "len") rfl)) (by decide +kernel) (pa_cons (pv 1) (pa_nil))) (pa_nil))) (pg_name (i := 3) sc_law_same.nd rfl (by first | exact Or.inl rfl | exact Or.inr rfl)) (pss_one (ps_if (pt_not (pt_tr (pe_def D (hr.mono (by first | decide | exact Nat.le_refl _)) (by rfl) passL (pa_cons (pe_ix ix_1 (pv 0) (pv 3) (fun _ _ => rfl)) (pa_cons (pe_ix ix_1 (pv 1) (pv 3) (fun _ _ => rfl)) (pa_nil)))) (by intro _; rfl))) (pss_one (ps_ret (pe_bl))) (pss_nil)))) (pss_one (ps_ret (pe_bl))))))))))))
  intro n
  induction n with
  | zero => exact key (fun _ _ _ _ => False) 0 0 ⟨_, fd, [], ⟨fun _ _ _ _ h => h.elim, fun _ _ _ _ _ _ _ _ _ _ _ _ _ h => h.elim⟩, (He.glo_ok Z.X Z.G (Z.k.fact 63 (f := .glo "_law_same") rfl)), F.kp, b, .nil⟩ fun _ _ _ _ i h => nomatch h
  | succ n ih => exact key _ _ _ ih fun vs H Q E i h z => by cases h; exact z
theorem sc_law_is_feed : FnScope [("told" : Str), "cues", "c"] [("told" : Str), "cues"] (defScope s_law_is_feed) := ⟨rfl, rfl, rfl, by decide +kernel, rfl, by decide +kernel, by decide +kernel⟩
theorem o_law_is_feed {P : Program} {w : World} {K : PySem.W.Frag} {mg : Str → Option Value} {base : Heap} (Z : Zz P w K mg base) {fd : FuncData} (F : FunD K dd_law_is_feed.name dd_law_is_feed.qual dd_law_is_feed.params dd_law_is_feed.body dd_law_is_feed.scope (dd_law_is_feed.dvs K) (dd_law_is_feed.kws K) (He.fAd K dd_law_is_feed.at_) fd) : FnOk P w K mg base (L2.CX P w) 1 (He.fAd K dd_law_is_feed.at_) fd [("told" : Str), "cues"] (sp_law_is_feed K) := by
  refine F.ok sc_law_is_feed (fun vs H Q E h => ?_) (fun cdv A outer s H vs Q E hr h => ⟨t_law_is_feed K E, PSs.nox ?_, pure_law_is_feed Z.k vs H Q E h⟩)
  · obtain ⟨_, _, _, _, _, e, _⟩ := h; rw [e]; rfl
  · exact pss_cons (ps_if (pt_not (pt_tr (pe_callB call_isi1 (by rfl) (He.free_ok Z.X Z.G (Z.k.fact 26 (f := .free "isinstance") rfl)) (by decide +kernel) (pa_cons (pv 0) (pa_cons (pe_bltn (v := .ty "tuple") (by rfl) (He.free_ok Z.X Z.G (Z.k.fact 7 (f := .free "tuple") rfl)) (by decide +kernel) rfl) (pa_nil)))) (by intro _; rfl))) (pss_one (ps_ret (pe_bl))) (pss_nil)) (pss_cons (ps_for PassesOwn.never rfl (pi_sq1 (pv 0)) (pg_name (i := 2) sc_law_is_feed.nd rfl (by first | exact Or.inl rfl | exact Or.inr rfl)) (pss_one (ps_if (PW.pt (pw_or (pt_not (pt_tr (pe_callB call_isi1 (by rfl) (He.free_ok Z.X Z.G (Z.k.fact 26 (f := .free "isinstance") rfl)) (by decide +kernel) (pa_cons (pv 2) (pa_cons (pe_bltn (v := .ty "int") (by rfl) (He.free_ok Z.X Z.G (Z.k.fact 24 (f := .free "int") rfl)) (by decide +kernel) rfl) (pa_nil)))) (by intro _; rfl))) (pw_or (pt_tr (pe_callB call_isi1 (by rfl) (He.free_ok Z.X Z.G (Z.k.fact 26 (f := .free "isinstance") rfl)) (by decide +kernel) (pa_cons (pv 2) (pa_cons (pe_bltn (v := .ty "bool") (by rfl) (He.free_ok Z.X Z.G (Z.k.fact 29 (f := .free "bool") rfl)) (by decide +kernel) rfl) (pa_nil)))) (by intro _; rfl)) (pw_or (pt_cmpR op_lt (pv 2) (pe_int) (nomark _)) (pw_or1 (pt_cmpR op_ge (pv 2) (pv 1) (nomark _))))))) (pss_one (ps_ret (pe_bl))) (pss_nil)))) (pss_one (ps_ret (pe_bl))))
theorem d_law_is_feed {P : Program} {w : World} {K : PySem.W.Frag} {mg : Str → Option Value} {base : Heap} (Z : Zz P w K mg base) : DefOk P w K mg base "_law_is_feed" 1 [("told" : Str), "cues"] [] (sp_law_is_feed K) := by
  obtain ⟨fd, F⟩ := Z.c.def_ 17 (d := dd_law_is_feed) rfl
  have b := F.bindsN (ps := [("told" : Str), "cues"]) fun _ _ _ _ _ _ us hl => match us, hl with | [_, _], _ => rfl
  exact ⟨_, fd, [], o_law_is_feed Z F, (He.glo_ok Z.X Z.G (Z.k.fact 64 (f := .glo "_law_is_feed") rfl)), F.kp, b, .nil⟩
theorem sc_law_asked : FnScope [("control" : Str), "feed", "got", "e", "kinds"] [("control" : Str), "feed"] (defScope s_law_asked) := ⟨rfl, rfl, rfl, by decide +kernel, rfl, by decide +kernel, by decide +kernel⟩
theorem o_law_asked {P : Program} {w : World} {K : PySem.W.Frag} {mg : Str → Option Value} {base : Heap} (Z : Zz P w K mg base) {fd : FuncData} (F : FunD K dd_law_asked.name dd_law_asked.qual dd_law_asked.params dd_law_asked.body dd_law_asked.scope (dd_law_asked.dvs K) (dd_law_asked.kws K) (He.fAd K dd_law_asked.at_) fd) : FnOk P w K mg base (L2.CX P w) 5 (He.fAd K dd_law_asked.at_) fd [("control" : Str), "feed"] (sp_law_asked K) := by
  refine F.ok sc_law_asked (fun vs H Q E h => ?_) (fun cdv A outer s H vs Q E hr h => ⟨t_law_asked K E, PSs.nox ?_, pure_law_asked Z.k vs H Q E h⟩)
  · obtain ⟨_, _, _, _, _, _, _, e, _⟩ := h; rw [e]; rfl
  · exact pss_cons (ps_set (i := 2) sc_law_asked.nd rfl (by first | exact Or.inl rfl | exact Or.inr rfl) (pe_tup (pa_cons (pe_str) (pa_cons (pe_int) (pa_nil))))) (pss_cons (ps_try_as (i := 3) rfl rfl sc_law_asked.nd rfl rfl ⟨by rfl, by decide, .inl (He.glo_ok Z.X Z.G (Z.k.fact 49 (f := .glo "FabricError") rfl))⟩ takes0 (fun W pn xe tkw po => pss_one (ps_set (i := 2) sc_law_asked.nd rfl (by first | exact Or.inl rfl | exact Or.inr rfl) (pe_tup (pa_cons (pe_str) (pa_cons (pe_defT (d_shows_reset Z) (hr.mono (by first | decide | exact Nat.le_refl _)) (by rfl) tkw (pa_cons (pv 0) (pa_cons (pv 1) (pa_nil)))) (pa_nil)))))) (fun a oe cls d pn hz hf => pss_cons (ps_set (i := 2) sc_law_asked.nd rfl (by first | exact Or.inl rfl | exact Or.inr rfl) (pe_tup (pa_cons (pe_str) (pa_cons (pe_int) (pa_nil))))) (pss_cons (ps_set (i := 4) sc_law_asked.nd rfl (by first | exact Or.inl rfl | exact Or.inr rfl) (pe_op op_add1 (pe_op op_add1 (pe_callTy call_int_1 (by rfl) (He.free_ok Z.X Z.G (Z.k.fact 24 (f := .free "int") rfl)) (by decide +kernel) (pa_cons (pe_callB (call_isED hz hf) (by rfl) (He.free_ok Z.X Z.G (Z.k.fact 26 (f := .free "isinstance") rfl)) (by decide +kernel) (pa_cons (pv 3) (pa_cons (pe_glob (by rfl) (He.glo_ok Z.X Z.G (Z.k.fact 35 (f := .glo "SizeError") rfl)) rfl) (pa_nil)))) (pa_nil))) (pe_callTy call_int_1 (by rfl) (He.free_ok Z.X Z.G (Z.k.fact 24 (f := .free "int") rfl)) (by decide +kernel) (pa_cons (pe_callB (call_isED hz hf) (by rfl) (He.free_ok Z.X Z.G (Z.k.fact 26 (f := .free "isinstance") rfl)) (by decide +kernel) (pa_cons (pv 3) (pa_cons (pe_glob (by rfl) (He.glo_ok Z.X Z.G (Z.k.fact 34 (f := .glo "ControlError") rfl)) rfl) (pa_nil)))) (pa_nil)))) (pe_callTy call_int_1 (by rfl) (He.free_ok Z.X Z.G (Z.k.fact 24 (f := .free "int") rfl)) (by decide +kernel) (pa_cons (pe_callB (call_isED hz hf) (by rfl) (He.free_ok Z.X Z.G (Z.k.fact 26 (f := .free "isinstance") rfl)) (by decide +kernel) (pa_cons (pv 3) (pa_cons (pe_glob (by rfl) (He.glo_ok Z.X Z.G (Z.k.fact 33 (f := .glo "FeedError") rfl)) rfl) (pa_nil)))) (pa_nil))))) (pss_cons (ps_set (i := 4) sc_law_asked.nd rfl (by first | exact Or.inl rfl | exact Or.inr rfl) (pe_op op_add1 (pe_op op_add1 (pv 4) (pe_callTy call_int_1 (by rfl) (He.free_ok Z.X Z.G (Z.k.fact 24 (f := .free "int") rfl)) (by decide +kernel) (pa_cons (pe_callB (call_isED hz hf) (by rfl) (He.free_ok Z.X Z.G (Z.k.fact 26 (f := .free "isinstance") rfl)) (by decide +kernel) (pa_cons (pv 3) (pa_cons (pe_glob (by rfl) (He.glo_ok Z.X Z.G (Z.k.fact 32 (f := .glo "ExchangeError") rfl)) rfl) (pa_nil)))) (pa_nil)))) (pe_callTy call_int_1 (by rfl) (He.free_ok Z.X Z.G (Z.k.fact 24 (f := .free "int") rfl)) (by decide +kernel) (pa_cons (pe_callB (call_isED hz hf) (by rfl) (He.free_ok Z.X Z.G (Z.k.fact 26 (f := .free "isinstance") rfl)) (by decide +kernel) (pa_cons (pv 3) (pa_cons (pe_tup (pa_cons (pe_glob (by rfl) (He.glo_ok Z.X Z.G (Z.k.fact 48 (f := .glo "BitsError") rfl)) rfl) (pa_cons (pe_glob (by rfl) (He.glo_ok Z.X Z.G (Z.k.fact 47 (f := .glo "MachineError") rfl)) rfl) (pa_cons (pe_glob (by rfl) (He.glo_ok Z.X Z.G (Z.k.fact 46 (f := .glo "ProgramError") rfl)) rfl) (pa_nil))))) (pa_nil)))) (pa_nil))))) (pss_cons (ps_set (i := 4) sc_law_asked.nd rfl (by first | exact Or.inl rfl | exact Or.inr rfl) (pe_op op_add1 (pv 4) (pe_callTy call_int_1 (by rfl) (He.free_ok Z.X Z.G (Z.k.fact 24 (f := .free "int") rfl)) (by decide +kernel) (pa_cons (pe_callB (call_isED hz hf) (by rfl) (He.free_ok Z.X Z.G (Z.k.fact 26 (f := .free "isinstance") rfl)) (by decide +kernel) (pa_cons (pv 3) (pa_cons (pe_tup (pa_cons (pe_glob (by rfl) (He.glo_ok Z.X Z.G (Z.k.fact 45 (f := .glo "CircuitError") rfl)) rfl) (pa_cons (pe_glob (by rfl) (He.glo_ok Z.X Z.G (Z.k.fact 44 (f := .glo "NetlistError") rfl)) rfl) (pa_cons (pe_glob (by rfl) (He.glo_ok Z.X Z.G (Z.k.fact 43 (f := .glo "FanoutError") rfl)) rfl) (pa_cons (pe_glob (by rfl) (He.glo_ok Z.X Z.G (Z.k.fact 42 (f := .glo "ColouringError") rfl)) rfl) (pa_cons (pe_glob (by rfl) (He.glo_ok Z.X Z.G (Z.k.fact 41 (f := .glo "EdgeError") rfl)) rfl) (pa_nil))))))) (pa_nil)))) (pa_nil))))) (pss_cons (ps_set (i := 4) sc_law_asked.nd rfl (by first | exact Or.inl rfl | exact Or.inr rfl) (pe_op op_add1 (pv 4) (pe_callTy call_int_1 (by rfl) (He.free_ok Z.X Z.G (Z.k.fact 24 (f := .free "int") rfl)) (by decide +kernel) (pa_cons (pe_callB (call_isED hz hf) (by rfl) (He.free_ok Z.X Z.G (Z.k.fact 26 (f := .free "isinstance") rfl)) (by decide +kernel) (pa_cons (pv 3) (pa_cons (pe_tup (pa_cons (pe_glob (by rfl) (He.glo_ok Z.X Z.G (Z.k.fact 40 (f := .glo "PathError") rfl)) rfl) (pa_cons (pe_glob (by rfl) (He.glo_ok Z.X Z.G (Z.k.fact 39 (f := .glo "TapeError") rfl)) rfl) (pa_cons (pe_glob (by rfl) (He.glo_ok Z.X Z.G (Z.k.fact 38 (f := .glo "StoreError") rfl)) rfl) (pa_cons (pe_glob (by rfl) (He.glo_ok Z.X Z.G (Z.k.fact 37 (f := .glo "HistoryError") rfl)) rfl) (pa_cons (pe_glob (by rfl) (He.glo_ok Z.X Z.G (Z.k.fact 36 (f := .glo "CommandError") rfl)) rfl) (pa_nil))))))) (pa_nil)))) (pa_nil))))) (C8.pss_cut (ps_if (PW.pt (pw_and (pt_cmpR (op_eq1 (by have q := hu64 hr; exact q)) (pv 4) (pe_int) (nomark _)) (pw_and (pt_tr (pe_callB (call_isED hz hf) (by rfl) (He.free_ok Z.X Z.G (Z.k.fact 26 (f := .free "isinstance") rfl)) (by decide +kernel) (pa_cons (pv 3) (pa_cons (pe_bltn (v := .ty "ValueError") (by rfl) (He.free_ok Z.X Z.G (Z.k.fact 31 (f := .free "ValueError") rfl)) (by decide +kernel) rfl) (pa_nil)))) (by intro _; rfl)) (pw_and1 (pt_tr (pe_callB (call_isED hz hf) (by rfl) (He.free_ok Z.X Z.G (Z.k.fact 26 (f := .free "isinstance") rfl)) (by decide +kernel) (pa_cons (pv 3) (pa_cons (pe_glob (by rfl) (He.glo_ok Z.X Z.G (Z.k.fact 35 (f := .glo "SizeError") rfl)) rfl) (pa_nil)))) (by intro _; rfl)))))) (pss_one (ps_set (i := 2) sc_law_asked.nd rfl (by first | exact Or.inl rfl | exact Or.inr rfl) (pe_tup (pa_cons (pe_str) (pa_cons (pe_nev) (pa_nil)))))) (pss_nil)) (C8.pss_cut (ps_if (PW.pt (pw_and (pt_cmpR (op_eq1 (by have q := hu64 hr; exact q)) (pv 4) (pe_int) (nomark _)) (pw_and (pt_tr (pe_callB (call_isED hz hf) (by rfl) (He.free_ok Z.X Z.G (Z.k.fact 26 (f := .free "isinstance") rfl)) (by decide +kernel) (pa_cons (pv 3) (pa_cons (pe_bltn (v := .ty "ValueError") (by rfl) (He.free_ok Z.X Z.G (Z.k.fact 31 (f := .free "ValueError") rfl)) (by decide +kernel) rfl) (pa_nil)))) (by intro _; rfl)) (pw_and1 (pt_tr (pe_callB (call_isED hz hf) (by rfl) (He.free_ok Z.X Z.G (Z.k.fact 26 (f := .free "isinstance") rfl)) (by decide +kernel) (pa_cons (pv 3) (pa_cons (pe_glob (by rfl) (He.glo_ok Z.X Z.G (Z.k.fact 34 (f := .glo "ControlError") rfl)) rfl) (pa_nil)))) (by intro _; rfl)))))) (pss_one (ps_set (i := 2) sc_law_asked.nd rfl (by first | exact Or.inl rfl | exact Or.inr rfl) (pe_tup (pa_cons (pe_str) (pa_cons (pe_nev) (pa_nil)))))) (pss_nil)) (C8.pss_cut (ps_if (PW.pt (pw_and (pt_cmpR (op_eq1 (by have q := hu64 hr; exact q)) (pv 4) (pe_int) (nomark _)) (pw_and (pt_tr (pe_callB (call_isED hz hf) (by rfl) (He.free_ok Z.X Z.G (Z.k.fact 26 (f := .free "isinstance") rfl)) (by decide +kernel) (pa_cons (pv 3) (pa_cons (pe_bltn (v := .ty "ValueError") (by rfl) (He.free_ok Z.X Z.G (Z.k.fact 31 (f := .free "ValueError") rfl)) (by decide +kernel) rfl) (pa_nil)))) (by intro _; rfl)) (pw_and1 (pt_tr (pe_callB (call_isED hz hf) (by rfl) (He.free_ok Z.X Z.G (Z.k.fact 26 (f := .free "isinstance") rfl)) (by decide +kernel) (pa_cons (pv 3) (pa_cons (pe_glob (by rfl) (He.glo_ok Z.X Z.G (Z.k.fact 33 (f := .glo "FeedError") rfl)) rfl) (pa_nil)))) (by intro _; rfl)))))) (pss_one (ps_set (i := 2) sc_law_asked.nd rfl (by first | exact Or.inl rfl | exact Or.inr rfl) (pe_tup (pa_cons (pe_str) (pa_cons (pe_xf (e_FeedError Z).2 (Z.err 0 (d := ed_FeedError) rfl).noat hz hf (pv 3)) (pa_nil)))))) (pss_nil)) (pss_one (ps_if (PW.pt (pw_and (pt_cmpR (op_eq1 (by have q := hu64 hr; exact q)) (pv 4) (pe_int) (nomark _)) (pw_and (pt_tr (pe_callB (call_isED hz hf) (by rfl) (He.free_ok Z.X Z.G (Z.k.fact 26 (f := .free "isinstance") rfl)) (by decide +kernel) (pa_cons (pv 3) (pa_cons (pe_bltn (v := .ty "ValueError") (by rfl) (He.free_ok Z.X Z.G (Z.k.fact 31 (f := .free "ValueError") rfl)) (by decide +kernel) rfl) (pa_nil)))) (by intro _; rfl)) (pw_and1 (pt_tr (pe_callB (call_isED hz hf) (by rfl) (He.free_ok Z.X Z.G (Z.k.fact 26 (f := .free "isinstance") rfl)) (by decide +kernel) (pa_cons (pv 3) (pa_cons (pe_glob (by rfl) (He.glo_ok Z.X Z.G (Z.k.fact 32 (f := .glo "ExchangeError") rfl)) rfl) (pa_nil)))) (by intro _; rfl)))))) (pss_one (ps_set (i := 2) sc_law_asked.nd rfl (by first | exact Or.inl rfl | exact Or.inr rfl) (pe_tup (pa_cons (pe_str) (pa_cons (pe_nev) (pa_nil)))))) (pss_nil)))))))))))) (pss_one (ps_ret (pv 2))))
theorem d_law_asked {P : Program} {w : World} {K : PySem.W.Frag} {mg : Str → Option Value} {base : Heap} (Z : Zz P w K mg base) : DefOk P w K mg base "_law_asked" 5 [("control" : Str), "feed"] [] (sp_law_asked K) := by
  obtain ⟨fd, F⟩ := Z.c.def_ 18 (d := dd_law_asked) rfl
  have b := F.bindsN (ps := [("control" : Str), "feed"]) fun _ _ _ _ _ _ us hl => match us, hl with | [_, _], _ => rfl
  exact ⟨_, fd, [], o_law_asked Z F, (He.glo_ok Z.X Z.G (Z.k.fact 65 (f := .glo "_law_asked") rfl)), F.kp, b, .nil⟩
theorem sc_law_nexts : FnScope [("script" : Str), "pool", "cues", "states", "way", "columns", "c", "own", "column", "s"] [("script" : Str), "pool", "cues", "states"] (defScope s_law_nexts) := ⟨rfl, rfl, rfl, by decide +kernel, rfl, by decide +kernel, by decide +kernel⟩
theorem o_law_nexts {P : Program} {w : World} {K : PySem.W.Frag} {mg : Str → Option Value} {base : Heap} (Z : Zz P w K mg base) {fd : FuncData} (F : FunD K dd_law_nexts.name dd_law_nexts.qual dd_law_nexts.params dd_law_nexts.body dd_law_nexts.scope (dd_law_nexts.dvs K) (dd_law_nexts.kws K) (He.fAd K dd_law_nexts.at_) fd) : FnOk P w K mg base (L2.CX P w) 2 (He.fAd K dd_law_nexts.at_) fd [("script" : Str), "pool", "cues", "states"] (sp_law_nexts K) := by
  refine F.ok sc_law_nexts (fun vs H Q E h => ?_) (fun cdv A outer s H vs Q E hr h => ⟨t_law_nexts K E, PSs.nox ?_, pure_law_nexts Z.k vs H Q E h⟩)
  · obtain ⟨_, _, _, _, _, _, _, _, _, _, _, e, _⟩ := h; rw [e]; rfl
  · exact pss_cons (ps_set (i := 4) sc_law_nexts.nd rfl (by first | exact Or.inl rfl | exact Or.inr rfl) (pe_def (d_law_draw Z) (hr.mono (by first | decide | exact Nat.le_refl _)) (by rfl) passL (pa_cons (pv 1) (pa_cons (pe_int) (pa_nil))))) (pss_cons (ps_set (i := 5) sc_law_nexts.nd rfl (by first | exact Or.inl rfl | exact Or.inr rfl) (pe_lst (pa_nil))) (pss_cons (ps_for PassesOwn.never rfl (pi_range1 (by rfl) (He.free_ok Z.X Z.G (Z.k.fact 15 (f := .free "range") rfl)) (pa_cons (pv 2) (pa_nil))) (pg_name (i := 6) sc_law_nexts.nd rfl (by first | exact Or.inl rfl | exact Or.inr rfl)) (pss_cons (ps_set (i := 7) sc_law_nexts.nd rfl (by first | exact Or.inl rfl | exact Or.inr rfl) (pe_def (d_law_pool Z) (hr.mono (by first | decide | exact Nat.le_refl _)) (by rfl) passL (pa_cons (pv 0) (pa_cons (pe_op op_add1 (pe_int) (pv 6)) (pa_nil))))) (pss_cons (ps_set (i := 8) sc_law_nexts.nd rfl (by first | exact Or.inl rfl | exact Or.inr rfl) (pe_lst (pa_nil))) (pss_cons (ps_for PassesOwn.never rfl (pi_range1 (by rfl) (He.free_ok Z.X Z.G (Z.k.fact 15 (f := .free "range") rfl)) (pa_cons (pv 3) (pa_nil))) (pg_name (i := 9) sc_law_nexts.nd rfl (by first | exact Or.inl rfl | exact Or.inr rfl)) (pss_one (ps_if (pt_cmpR op_lt (pv 4) (pe_int) (nomark _)) (pss_one (ps_expr (pe_bm PySem.F.plainAttrs_list PySem.F.slot_list_append PySem.F.type_list_append mt_append (pv 8) (pa_cons (pe_def (d_law_draw Z) (hr.mono (by first | decide | exact Nat.le_refl _)) (by rfl) passL (pa_cons (pv 7) (pa_cons (pv 3) (pa_nil)))) (pa_nil))))) (pss_one (ps_expr (pe_bm PySem.F.plainAttrs_list PySem.F.slot_list_insert PySem.F.type_list_insert mt_insert1 (pv 8) (pa_cons (pe_def (d_law_draw Z) (hr.mono (by first | decide | exact Nat.le_refl _)) (by rfl) passL (pa_cons (pv 7) (pa_cons (pe_op op_add1 (pv 9) (pe_int)) (pa_nil)))) (pa_cons (pv 9) (pa_nil))))))))) (pss_one (ps_expr (pe_bm PySem.F.plainAttrs_list PySem.F.slot_list_append PySem.F.type_list_append mt_append (pv 5) (pa_cons (pv 8) (pa_nil))))))))) (C8.pss_cut (ps_if (pt_cmpR (op_eq1 (hu64 hr)) (pv 4) (pe_int) (nomark _)) (pss_cons (ps_set (i := 6) sc_law_nexts.nd rfl (by first | exact Or.inl rfl | exact Or.inr rfl) (pe_def (d_law_draw Z) (hr.mono (by first | decide | exact Nat.le_refl _)) (by rfl) passL (pa_cons (pv 1) (pa_cons (pv 2) (pa_nil))))) (pss_one (ps_asg (pe_def (d_law_draw Z) (hr.mono (by first | decide | exact Nat.le_refl _)) (by rfl) passL (pa_cons (pv 1) (pa_cons (pv 3) (pa_nil)))) (pg_sub (pe_ix ix_1 (pv 5) (pv 6) (fun _ _ => rfl)) (pe_def (d_law_draw Z) (hr.mono (by first | decide | exact Nat.le_refl _)) (by rfl) passL (pa_cons (pv 1) (pa_cons (pv 3) (pa_nil)))) set_list)))) (pss_nil)) (pss_one (ps_ret (pv 5))))))
theorem d_law_nexts {P : Program} {w : World} {K : PySem.W.Frag} {mg : Str → Option Value} {base : Heap} (Z : Zz P w K mg base) : DefOk P w K mg base "_law_nexts" 2 [("script" : Str), "pool", "cues", "states"] [] (sp_law_nexts K) := by
  obtain ⟨fd, F⟩ := Z.c.def_ 19 (d := dd_law_nexts) rfl
  have b := F.bindsN (ps := [("script" : Str), "pool", "cues", "states"]) fun _ _ _ _ _ _ us hl => match us, hl with | [_, _, _, _], _ => rfl
  exact ⟨_, fd, [], o_law_nexts Z F, (He.glo_ok Z.X Z.G (Z.k.fact 66 (f := .glo "_law_nexts") rfl)), F.kp, b, .nil⟩
theorem sc_law_turning : FnScope [("states" : Str), "s"] [("states" : Str)] (defScope s_law_turning) := ⟨rfl, rfl, rfl, by decide +kernel, rfl, by decide +kernel, by decide +kernel⟩
theorem o_law_turning {P : Program} {w : World} {K : PySem.W.Frag} {mg : Str → Option Value} {base : Heap} (Z : Zz P w K mg base) {fd : FuncData} (F : FunD K dd_law_turning.name dd_law_turning.qual dd_law_turning.params dd_law_turning.body dd_law_turning.scope (dd_law_turning.dvs K) (dd_law_turning.kws K) (He.fAd K dd_law_turning.at_) fd) : FnOk P w K mg base (L2.CX P w) 1 (He.fAd K dd_law_turning.at_) fd [("states" : Str)] (sp_law_turning K) := by
  refine F.ok sc_law_turning (fun vs H Q E h => ?_) (fun cdv A outer s H vs Q E hr h => ⟨t_law_turning K E, PSs.nox ?_, pure_law_turning Z.k vs H Q E h⟩)
  · obtain ⟨_, _, _, e, _⟩ := h; rw [e]; rfl
  · exact pss_one (ps_ret (pe_lst (pa_cons (pe_lc (own := [("s", 1)]) rfl sc_law_turning.nd (pi_range1 (by rfl) (He.free_ok Z.X Z.G (Z.k.fact 15 (f := .free "range") rfl)) (pa_cons (pv 0) (pa_nil))) (blkOk_by (N := [("states" : Str), "s"]) (sc := defScope s_law_turning) (by decide +kernel)) (fun _ _ _ _ _ => pg_name (i := 1) sc_law_turning.nd rfl (by first | exact Or.inl rfl | exact Or.inr rfl)) (fun _ _ _ _ _ => pts_nil) (fun _ _ _ _ _ => pe_op op_mod1 (pe_callTy call_int_1 (by rfl) (He.free_ok Z.X Z.G (Z.k.fact 24 (f := .free "int") rfl)) (by decide +kernel) (pa_cons (pe_op op_add1 (pv 1) (pe_int)) (pa_nil))) (pv 0))) (pa_cons (pe_op op_add1 (pe_listRg rfl (by rfl) (He.free_ok Z.X Z.G (Z.k.fact 23 (f := .free "list") rfl)) (prg_1 (by rfl) (He.free_ok Z.X Z.G (Z.k.fact 15 (f := .free "range") rfl)) (pe_op op_sub (pv 0) (pe_int)))) (pe_lst (pa_cons (pe_int) (pa_nil)))) (pa_nil)))))
theorem d_law_turning {P : Program} {w : World} {K : PySem.W.Frag} {mg : Str → Option Value} {base : Heap} (Z : Zz P w K mg base) : DefOk P w K mg base "_law_turning" 1 [("states" : Str)] [] (sp_law_turning K) := by
  obtain ⟨fd, F⟩ := Z.c.def_ 20 (d := dd_law_turning) rfl
  have b := F.bindsN (ps := [("states" : Str)]) fun _ _ _ _ _ _ us hl => match us, hl with | [_], _ => rfl
  exact ⟨_, fd, [], o_law_turning Z F, (He.glo_ok Z.X Z.G (Z.k.fact 67 (f := .glo "_law_turning") rfl)), F.kp, b, .nil⟩
theorem sc_law_made : FnScope [("columns" : Str), "pool", "replies", "rows", "s", "column"] [("columns" : Str), "pool", "replies"] (defScope s_law_made) := ⟨rfl, rfl, rfl, by decide +kernel, rfl, by decide +kernel, by decide +kernel⟩
theorem o_law_made {P : Program} {w : World} {K : PySem.W.Frag} {mg : Str → Option Value} {base : Heap} (Z : Zz P w K mg base) {fd : FuncData} (F : FunD K dd_law_made.name dd_law_made.qual dd_law_made.params dd_law_made.body dd_law_made.scope (dd_law_made.dvs K) (dd_law_made.kws K) (He.fAd K dd_law_made.at_) fd) : FnOk P w K mg base (L2.CX P w) 2 (He.fAd K dd_law_made.at_) fd [("columns" : Str), "pool", "replies"] (sp_law_made K) := by
  refine F.ok sc_law_made (fun vs H Q E h => ?_) (fun cdv A outer s H vs Q E hr h => ⟨t_law_made K E, PSs.nox ?_, pure_law_made Z.k vs H Q E h⟩)
  · obtain ⟨_, _, _, _, _, _, _, _, _, _, _, _, e, _⟩ := h; rw [e]; rfl
  · exact pss_cons (ps_set (i := 3) sc_law_made.nd rfl (by first | exact Or.inl rfl | exact Or.inr rfl) (pe_lst (pa_nil))) (pss_cons (ps_for PassesOwn.never rfl (pi_range1 (by rfl) (He.free_ok Z.X Z.G (Z.k.fact 15 (f := .free "range") rfl)) (pa_cons (pe_callB call_len1 (by rfl) (He.free_ok Z.X Z.G (Z.k.fact 5 (f := .free "len") rfl)) (by decide +kernel) (pa_cons (pe_ix ix_1 (pv 0) (pe_int) (fun _ _ => rfl)) (pa_nil))) (pa_nil))) (pg_name (i := 4) sc_law_made.nd rfl (by first | exact Or.inl rfl | exact Or.inr rfl)) (pss_one (ps_expr (pe_bm PySem.F.plainAttrs_list PySem.F.slot_list_append PySem.F.type_list_append mt_append (pv 3) (pa_cons (pe_callTy call_tuple1 (by rfl) (He.free_ok Z.X Z.G (Z.k.fact 7 (f := .free "tuple") rfl)) (by decide +kernel) (pa_cons (pe_lc (own := [("column", 5)]) rfl sc_law_made.nd (pi_sq1 (pv 0)) (blkOk_by (N := [("columns" : Str), "pool", "replies", "rows", "s", "column"]) (sc := defScope s_law_made) (by decide +kernel)) (fun _ _ _ _ _ => pg_name (i := 5) sc_law_made.nd rfl (by first | exact Or.inl rfl | exact Or.inr rfl)) (fun _ _ _ _ _ => pts_nil) (fun _ _ _ _ _ => pe_tup (pa_cons (pe_ix ix_1 (pv 5) (pv 4) (fun _ _ => rfl)) (pa_cons (pe_def (d_law_draw Z) (hr.mono (by first | decide | exact Nat.le_refl _)) (by rfl) passL (pa_cons (pv 1) (pa_cons (pv 2) (pa_nil)))) (pa_nil))))) (pa_nil))) (pa_nil)))))) (pss_one (ps_ret (pv 3))))
theorem d_law_made {P : Program} {w : World} {K : PySem.W.Frag} {mg : Str → Option Value} {base : Heap} (Z : Zz P w K mg base) : DefOk P w K mg base "_law_made" 2 [("columns" : Str), "pool", "replies"] [] (sp_law_made K) := by
  obtain ⟨fd, F⟩ := Z.c.def_ 21 (d := dd_law_made) rfl
  have b := F.bindsN (ps := [("columns" : Str), "pool", "replies"]) fun _ _ _ _ _ _ us hl => match us, hl with | [_, _, _], _ => rfl
  exact ⟨_, fd, [], o_law_made Z F, (He.glo_ok Z.X Z.G (Z.k.fact 68 (f := .glo "_law_made") rfl)), F.kp, b, .nil⟩
theorem sc_law_merging : FnScope [("columns" : Str), "states", "found", "p", "k", "many", "q", "column"] [("columns" : Str)] (defScope s_law_merging) := ⟨rfl, rfl, rfl, by decide +kernel, rfl, by decide +kernel, by decide +kernel⟩
theorem o_law_merging {P : Program} {w : World} {K : PySem.W.Frag} {mg : Str → Option Value} {base : Heap} (Z : Zz P w K mg base) {fd : FuncData} (F : FunD K dd_law_merging.name dd_law_merging.qual dd_law_merging.params dd_law_merging.body dd_law_merging.scope (dd_law_merging.dvs K) (dd_law_merging.kws K) (He.fAd K dd_law_merging.at_) fd) : FnOk P w K mg base (L2.CX P w) 1 (He.fAd K dd_law_merging.at_) fd [("columns" : Str)] (sp_law_merging K) := by
  refine F.ok sc_law_merging (fun vs H Q E h => ?_) (fun cdv A outer s H vs Q E hr h => ⟨t_law_merging K E, PSs.nox ?_, pure_law_merging Z.k vs H Q E h⟩)
  · obtain ⟨_, _, _, _, e, _⟩ := h; rw [e]; rfl
  · exact pss_cons (ps_set (i := 1) sc_law_merging.nd rfl (by first | exact Or.inl rfl | exact Or.inr rfl) (pe_callB call_len1 (by rfl) (He.free_ok Z.X Z.G (Z.k.fact 5 (f := .free "len") rfl)) (by decide +kernel) (pa_cons (pe_ix ix_1 (pv 0) (pe_int) (fun _ _ => rfl)) (pa_nil)))) (pss_cons (ps_set (i := 2) sc_law_merging.nd rfl (by first | exact Or.inl rfl | exact Or.inr rfl) (pe_dnewT)) (pss_cons (ps_for PassesOwn.never rfl (pi_range1 (by rfl) (He.free_ok Z.X Z.G (Z.k.fact 15 (f := .free "range") rfl)) (pa_cons (pv 1) (pa_nil))) (pg_name (i := 3) sc_law_merging.nd rfl (by first | exact Or.inl rfl | exact Or.inr rfl)) (pss_one (ps_dput (hu1 hr) (pv 2) (pe_tup (pa_cons (pv 3) (pa_cons (pv 3) (pa_nil)))) (pe_bl) rfl))) (pss_cons (ps_for PassesOwn.never rfl (pi_range1 (by rfl) (He.free_ok Z.X Z.G (Z.k.fact 15 (f := .free "range") rfl)) (pa_cons (pe_op op_mul1 (pv 1) (pv 1)) (pa_nil))) (pg_name (i := 4) sc_law_merging.nd rfl (by first | exact Or.inl rfl | exact Or.inr rfl)) (pss_cons (ps_set (i := 5) sc_law_merging.nd rfl (by first | exact Or.inl rfl | exact Or.inr rfl) (pe_callB call_lenD1 (by rfl) (He.free_ok Z.X Z.G (Z.k.fact 5 (f := .free "len") rfl)) (by decide +kernel) (pa_cons (pv 2) (pa_nil)))) (pss_cons (ps_for PassesOwn.never rfl (pi_range1 (by rfl) (He.free_ok Z.X Z.G (Z.k.fact 15 (f := .free "range") rfl)) (pa_cons (pv 1) (pa_nil))) (pg_name (i := 3) sc_law_merging.nd rfl (by first | exact Or.inl rfl | exact Or.inr rfl)) (pss_one (ps_for PassesOwn.never rfl (pi_range1 (by rfl) (He.free_ok Z.X Z.G (Z.k.fact 15 (f := .free "range") rfl)) (pa_cons (pv 1) (pa_nil))) (pg_name (i := 6) sc_law_merging.nd rfl (by first | exact Or.inl rfl | exact Or.inr rfl)) (pss_one (ps_for PassesOwn.never rfl (pi_sq1 (pv 0)) (pg_name (i := 7) sc_law_merging.nd rfl (by first | exact Or.inl rfl | exact Or.inr rfl)) (pss_one (ps_if (pt_cmp (pc_din (hu1 hr) (pe_tup (pa_cons (pe_ix ix_1 (pv 7) (pv 3) (fun _ _ => rfl)) (pa_cons (pe_ix ix_1 (pv 7) (pv 6) (fun _ _ => rfl)) (pa_nil)))) (pv 2))) (pss_one (ps_dput (hu1 hr) (pv 2) (pe_tup (pa_cons (pv 3) (pa_cons (pv 6) (pa_nil)))) (pe_bl) rfl)) (pss_nil)))))))) (pss_one (ps_if (pt_cmpR (op_eq1 (hu64 hr)) (pe_callB call_lenD1 (by rfl) (He.free_ok Z.X Z.G (Z.k.fact 5 (f := .free "len") rfl)) (by decide +kernel) (pa_cons (pv 2) (pa_nil))) (pv 5) (nomark _)) (pss_one (ps_break)) (pss_nil)))))) (pss_one (ps_ret (pv 2))))))
theorem d_law_merging {P : Program} {w : World} {K : PySem.W.Frag} {mg : Str → Option Value} {base : Heap} (Z : Zz P w K mg base) : DefOk P w K mg base "_law_merging" 1 [("columns" : Str)] [] (sp_law_merging K) := by
  obtain ⟨fd, F⟩ := Z.c.def_ 22 (d := dd_law_merging) rfl
  have b := F.bindsN (ps := [("columns" : Str)]) fun _ _ _ _ _ _ us hl => match us, hl with | [_], _ => rfl
  exact ⟨_, fd, [], o_law_merging Z F, (He.glo_ok Z.X Z.G (Z.k.fact 69 (f := .glo "_law_merging") rfl)), F.kp, b, .nil⟩
theorem sc_law_never : FnScope [("columns" : Str), "pairs", "known", "pair", "column"] [("columns" : Str), "pairs"] (defScope s_law_never) := ⟨rfl, rfl, rfl, by decide +kernel, rfl, by decide +kernel, by decide +kernel⟩
theorem o_law_never {P : Program} {w : World} {K : PySem.W.Frag} {mg : Str → Option Value} {base : Heap} (Z : Zz P w K mg base) {fd : FuncData} (F : FunD K dd_law_never.name dd_law_never.qual dd_law_never.params dd_law_never.body dd_law_never.scope (dd_law_never.dvs K) (dd_law_never.kws K) (He.fAd K dd_law_never.at_) fd) : FnOk P w K mg base (L2.CX P w) 1 (He.fAd K dd_law_never.at_) fd [("columns" : Str), "pairs"] (sp_law_never K) := by
  refine F.ok sc_law_never (fun vs H Q E h => ?_) (fun cdv A outer s H vs Q E hr h => ⟨t_law_never K E, PSs.nox ?_, pure_law_never Z.k vs H Q E h⟩)
  · obtain ⟨_, _, _, _, _, _, _, _, e, _⟩ := h; rw [e]; rfl
  · exact pss_cons (ps_set (i := 2) sc_law_never.nd rfl (by first | exact Or.inl rfl | exact Or.inr rfl) (pe_dnewT)) (pss_cons (ps_for PassesOwn.never rfl (pi_sq1 (pv 1)) (pg_name (i := 3) sc_law_never.nd rfl (by first | exact Or.inl rfl | exact Or.inr rfl)) (pss_cons (ps_dput (hu1 hr) (pv 2) (pv 3) (pe_bl) rfl) (pss_one (ps_dput (hu1 hr) (pv 2) (pe_tup (pa_cons (pe_ix ix_1 (pv 3) (pe_int) (fun _ _ => rfl)) (pa_cons (pe_ix ix_1 (pv 3) (pe_int) (fun _ _ => rfl)) (pa_nil)))) (pe_bl) rfl)))) (pss_cons (ps_for PassesOwn.never rfl (pi_sq1 (pv 1)) (pg_name (i := 3) sc_law_never.nd rfl (by first | exact Or.inl rfl | exact Or.inr rfl)) (pss_cons (ps_if (PW.pt (pw_or (pt_cmpR op_lt (pe_ix ix_1 (pv 3) (pe_int) (fun _ _ => rfl)) (pe_int) (nomark _)) (pw_or (pt_cmpR op_lt (pe_ix ix_1 (pv 3) (pe_int) (fun _ _ => rfl)) (pe_int) (nomark _)) (pw_or (pt_cmpR op_ge (pe_ix ix_1 (pv 3) (pe_int) (fun _ _ => rfl)) (pe_callB call_len1 (by rfl) (He.free_ok Z.X Z.G (Z.k.fact 5 (f := .free "len") rfl)) (by decide +kernel) (pa_cons (pe_ix ix_1 (pv 0) (pe_int) (fun _ _ => rfl)) (pa_nil))) (nomark _)) (pw_or1 (pt_cmpR op_ge (pe_ix ix_1 (pv 3) (pe_int) (fun _ _ => rfl)) (pe_callB call_len1 (by rfl) (He.free_ok Z.X Z.G (Z.k.fact 5 (f := .free "len") rfl)) (by decide +kernel) (pa_cons (pe_ix ix_1 (pv 0) (pe_int) (fun _ _ => rfl)) (pa_nil))) (nomark _))))))) (pss_one (ps_ret (pe_bl))) (pss_nil)) (pss_cons (ps_if (pt_cmpR (op_eq1 (hu64 hr)) (pe_ix ix_1 (pv 3) (pe_int) (fun _ _ => rfl)) (pe_ix ix_1 (pv 3) (pe_int) (fun _ _ => rfl)) (nomark _)) (pss_one (ps_ret (pe_bl))) (pss_nil)) (pss_one (ps_for PassesOwn.never rfl (pi_sq1 (pv 0)) (pg_name (i := 4) sc_law_never.nd rfl (by first | exact Or.inl rfl | exact Or.inr rfl)) (pss_one (ps_if (pt_cmp (pc_dnotin (hu1 hr) (pe_tup (pa_cons (pe_ix ix_1 (pv 4) (pe_ix ix_1 (pv 3) (pe_int) (fun _ _ => rfl)) (fun _ _ => rfl)) (pa_cons (pe_ix ix_1 (pv 4) (pe_ix ix_1 (pv 3) (pe_int) (fun _ _ => rfl)) (fun _ _ => rfl)) (pa_nil)))) (pv 2))) (pss_one (ps_ret (pe_bl))) (pss_nil)))))))) (pss_one (ps_ret (pe_cmpR op_gt (pe_callB call_len1 (by rfl) (He.free_ok Z.X Z.G (Z.k.fact 5 (f := .free "len") rfl)) (by decide +kernel) (pa_cons (pv 1) (pa_nil))) (pe_int) (nomark _))))))
theorem d_law_never {P : Program} {w : World} {K : PySem.W.Frag} {mg : Str → Option Value} {base : Heap} (Z : Zz P w K mg base) : DefOk P w K mg base "_law_never" 1 [("columns" : Str), "pairs"] [] (sp_law_never K) := by
  obtain ⟨fd, F⟩ := Z.c.def_ 23 (d := dd_law_never) rfl
  have b := F.bindsN (ps := [("columns" : Str), "pairs"]) fun _ _ _ _ _ _ us hl => match us, hl with | [_, _], _ => rfl
  exact ⟨_, fd, [], o_law_never Z F, (He.glo_ok Z.X Z.G (Z.k.fact 70 (f := .glo "_law_never") rfl)), F.kp, b, .nil⟩
theorem sc_law_ends : FnScope [("columns" : Str), "feed", "places", "c", "s"] [("columns" : Str), "feed"] (defScope s_law_ends) := ⟨rfl, rfl, rfl, by decide +kernel, rfl, by decide +kernel, by decide +kernel⟩
theorem o_law_ends {P : Program} {w : World} {K : PySem.W.Frag} {mg : Str → Option Value} {base : Heap} (Z : Zz P w K mg base) {fd : FuncData} (F : FunD K dd_law_ends.name dd_law_ends.qual dd_law_ends.params dd_law_ends.body dd_law_ends.scope (dd_law_ends.dvs K) (dd_law_ends.kws K) (He.fAd K dd_law_ends.at_) fd) : FnOk P w K mg base (L2.CX P w) 1 (He.fAd K dd_law_ends.at_) fd [("columns" : Str), "feed"] (sp_law_ends K) := by
  refine F.ok sc_law_ends (fun vs H Q E h => ?_) (fun cdv A outer s H vs Q E hr h => ⟨t_law_ends K E, PSs.nox ?_, pure_law_ends Z.k vs H Q E h⟩)
  · obtain ⟨_, _, _, _, _, _, _, e, _⟩ := h; rw [e]; rfl
  · exact pss_cons (ps_set (i := 2) sc_law_ends.nd rfl (by first | exact Or.inl rfl | exact Or.inr rfl) (pe_listRg rfl (by rfl) (He.free_ok Z.X Z.G (Z.k.fact 23 (f := .free "list") rfl)) (prg_1 (by rfl) (He.free_ok Z.X Z.G (Z.k.fact 15 (f := .free "range") rfl)) (pe_callB call_len1 (by rfl) (He.free_ok Z.X Z.G (Z.k.fact 5 (f := .free "len") rfl)) (by decide +kernel) (pa_cons (pe_ix ix_1 (pv 0) (pe_int) (fun _ _ => rfl)) (pa_nil)))))) (pss_cons (ps_for PassesOwn.never rfl (pi_sq1 (pv 1)) (pg_name (i := 3) sc_law_ends.nd rfl (by first | exact Or.inl rfl | exact Or.inr rfl)) (pss_one (ps_set (i := 2) sc_law_ends.nd rfl (by first | exact Or.inl rfl | exact Or.inr rfl) (pe_lc (own := [("s", 4)]) rfl sc_law_ends.nd (pi_sq1 (pv 2)) (blkOk_by (N := [("columns" : Str), "feed", "places", "c", "s"]) (sc := defScope s_law_ends) (by decide +kernel)) (fun _ _ _ _ _ => pg_name (i := 4) sc_law_ends.nd rfl (by first | exact Or.inl rfl | exact Or.inr rfl)) (fun _ _ _ _ _ => pts_nil) (fun _ _ _ _ _ => pe_ix ix_1 (pe_ix ix_1 (pv 0) (pv 3) (fun _ _ => rfl)) (pv 4) (fun _ _ => rfl)))))) (pss_one (ps_ret (pe_lc (own := [("s", 4)]) rfl sc_law_ends.nd (pi_range1 (by rfl) (He.free_ok Z.X Z.G (Z.k.fact 15 (f := .free "range") rfl)) (pa_cons (pe_callB call_len1 (by rfl) (He.free_ok Z.X Z.G (Z.k.fact 5 (f := .free "len") rfl)) (by decide +kernel) (pa_cons (pe_ix ix_1 (pv 0) (pe_int) (fun _ _ => rfl)) (pa_nil))) (pa_nil))) (blkOk_by (N := [("columns" : Str), "feed", "places", "c", "s"]) (sc := defScope s_law_ends) (by decide +kernel)) (fun _ _ _ _ _ => pg_name (i := 4) sc_law_ends.nd rfl (by first | exact Or.inl rfl | exact Or.inr rfl)) (fun _ _ _ _ _ => pts_one (pt_cmpR op_in1 (pv 4) (pv 2) (by rfl))) (fun _ _ _ _ _ => pv 4)))))
theorem d_law_ends {P : Program} {w : World} {K : PySem.W.Frag} {mg : Str → Option Value} {base : Heap} (Z : Zz P w K mg base) : DefOk P w K mg base "_law_ends" 1 [("columns" : Str), "feed"] [] (sp_law_ends K) := by
  obtain ⟨fd, F⟩ := Z.c.def_ 24 (d := dd_law_ends) rfl
  have b := F.bindsN (ps := [("columns" : Str), "feed"]) fun _ _ _ _ _ _ us hl => match us, hl with | [_, _], _ => rfl
  exact ⟨_, fd, [], o_law_ends Z F, (He.glo_ok Z.X Z.G (Z.k.fact 71 (f := .glo "_law_ends") rfl)), F.kp, b, .nil⟩
theorem sc_law_rows_of_pairs : FnScope [("pool" : Str), "columns", "found", "states", "right", "p", "q", "pair", "some", "k", "twice", "made"] [("pool" : Str), "columns", "found"] (defScope s_law_rows_of_pairs) := ⟨rfl, rfl, rfl, by decide +kernel, rfl, by decide +kernel, by decide +kernel⟩
theorem o_law_rows_of_pairs {P : Program} {w : World} {K : PySem.W.Frag} {mg : Str → Option Value} {base : Heap} (Z : Zz P w K mg base) {fd : FuncData} (F : FunD K dd_law_rows_of_pairs.name dd_law_rows_of_pairs.qual dd_law_rows_of_pairs.params dd_law_rows_of_pairs.body dd_law_rows_of_pairs.scope (dd_law_rows_of_pairs.dvs K) (dd_law_rows_of_pairs.kws K) (He.fAd K dd_law_rows_of_pairs.at_) fd) : FnOk P w K mg base (L2.CX P w) 2 (He.fAd K dd_law_rows_of_pairs.at_) fd [("pool" : Str), "columns", "found"] (sp_law_rows_of_pairs K) := by
  refine F.ok sc_law_rows_of_pairs (fun vs H Q E h => ?_) (fun cdv A outer s H vs Q E hr h => ⟨t_law_rows_of_pairs K E, PSs.nox ?_, pure_law_rows_of_pairs Z.k vs H Q E h⟩)
  · obtain ⟨_, _, _, _, _, _, _, _, _, _, _, _, e, _⟩ := h; rw [e]; rfl
  · exact pss_cons (ps_set (i := 3) sc_law_rows_of_pairs.nd rfl (by first | exact Or.inl rfl | exact Or.inr rfl) (pe_callB call_len1 (by rfl) (He.free_ok Z.X Z.G (Z.k.fact 5 (f := .free "len") rfl)) (by decide +kernel) (pa_cons (pe_ix ix_1 (pv 1) (pe_int) (fun _ _ => rfl)) (pa_nil)))) (pss_cons (ps_set (i := 4) sc_law_rows_of_pairs.nd rfl (by first | exact Or.inl rfl | exact Or.inr rfl) (pe_lst (pa_nil))) (pss_cons (ps_for PassesOwn.never rfl (pi_range1 (by rfl) (He.free_ok Z.X Z.G (Z.k.fact 15 (f := .free "range") rfl)) (pa_cons (pv 3) (pa_nil))) (pg_name (i := 5) sc_law_rows_of_pairs.nd rfl (by first | exact Or.inl rfl | exact Or.inr rfl)) (pss_one (ps_for PassesOwn.never rfl (pi_range2 (by rfl) (He.free_ok Z.X Z.G (Z.k.fact 15 (f := .free "range") rfl)) (pa_cons (pe_op op_add1 (pv 5) (pe_int)) (pa_cons (pv 3) (pa_nil)))) (pg_name (i := 6) sc_law_rows_of_pairs.nd rfl (by first | exact Or.inl rfl | exact Or.inr rfl)) (pss_one (ps_if (pt_cmp (pc_dnotin (hu1 hr) (pe_tup (pa_cons (pv 5) (pa_cons (pv 6) (pa_nil)))) (pv 2))) (pss_cons (ps_set (i := 7) sc_law_rows_of_pairs.nd rfl (by first | exact Or.inl rfl | exact Or.inr rfl) (pe_ix ix_1 (pe_lst (pa_cons (pe_tup (pa_cons (pv 5) (pa_cons (pv 6) (pa_nil)))) (pa_cons (pe_tup (pa_cons (pv 6) (pa_cons (pv 5) (pa_nil)))) (pa_nil)))) (pe_def (d_law_draw Z) (hr.mono (by first | decide | exact Nat.le_refl _)) (by rfl) passL (pa_cons (pv 0) (pa_cons (pe_int) (pa_nil)))) (fun _ _ => rfl))) (pss_cons (ps_expr (pe_bm PySem.F.plainAttrs_list PySem.F.slot_list_insert PySem.F.type_list_insert mt_insert1 (pv 4) (pa_cons (pe_def (d_law_draw Z) (hr.mono (by first | decide | exact Nat.le_refl _)) (by rfl) passL (pa_cons (pv 0) (pa_cons (pe_op op_add1 (pe_callB call_len1 (by rfl) (He.free_ok Z.X Z.G (Z.k.fact 5 (f := .free "len") rfl)) (by decide +kernel) (pa_cons (pv 4) (pa_nil))) (pe_int)) (pa_nil)))) (pa_cons (pv 7) (pa_nil))))) (pss_one (ps_if (pt_cmpR (op_eq1 (hu64 hr)) (pe_def (d_law_draw Z) (hr.mono (by first | decide | exact Nat.le_refl _)) (by rfl) passL (pa_cons (pv 0) (pa_cons (pe_int) (pa_nil)))) (pe_int) (nomark _)) (pss_one (ps_expr (pe_bm PySem.F.plainAttrs_list PySem.F.slot_list_append PySem.F.type_list_append mt_append (pv 4) (pa_cons (pe_tup (pa_cons (pv 6) (pa_cons (pv 5) (pa_nil)))) (pa_nil))))) (pss_nil))))) (pss_nil)))))) (pss_cons (ps_setLc (i := 8) (own := [("k", 9)]) rfl sc_law_rows_of_pairs.nd rfl rfl (sw_true rfl rfl rfl (by decide +kernel)) (pi_range1 (by rfl) (He.free_ok Z.X Z.G (Z.k.fact 15 (f := .free "range") rfl)) (pa_cons (pe_int) (pa_nil))) (blkOk_by (N := [("pool" : Str), "columns", "found", "states", "right", "p", "q", "pair", "some", "k", "twice", "made"]) (sc := defScope s_law_rows_of_pairs) (by decide +kernel)) (fun _ _ _ _ _ => pg_name (i := 9) sc_law_rows_of_pairs.nd rfl (by first | exact Or.inl rfl | exact Or.inr rfl)) (fun _ _ _ _ _ => pts_nil) (fun _ _ _ _ _ => pe_tup (pa_cons (pe_def (d_law_draw Z) (hr.mono (by first | decide | exact Nat.le_refl _)) (by rfl) passL (pa_cons (pv 0) (pa_cons (pv 3) (pa_nil)))) (pa_cons (pe_def (d_law_draw Z) (hr.mono (by first | decide | exact Nat.le_refl _)) (by rfl) passL (pa_cons (pv 0) (pa_cons (pv 3) (pa_nil)))) (pa_nil))))) (pss_cons (ps_set (i := 10) sc_law_rows_of_pairs.nd rfl (by first | exact Or.inl rfl | exact Or.inr rfl) (pe_def (d_law_draw Z) (hr.mono (by first | decide | exact Nat.le_refl _)) (by rfl) passL (pa_cons (pv 0) (pa_cons (pv 3) (pa_nil))))) (pss_cons (ps_set (i := 11) sc_law_rows_of_pairs.nd rfl (by first | exact Or.inl rfl | exact Or.inr rfl) (pe_lst (pa_cons (pv 4) (pa_cons (pe_lst (pa_nil)) (pa_cons (pv 8) (pa_cons (pe_op op_add1 (pv 4) (pv 8)) (pa_cons (pe_op op_add1 (pv 4) (pe_lst (pa_cons (pe_tup (pa_cons (pv 10) (pa_cons (pv 10) (pa_nil)))) (pa_nil)))) (pa_cons (pe_op op_add1 (pv 4) (pe_lst (pa_cons (pe_tup (pa_cons (pe_un un_neg1 (pe_int)) (pa_cons (pv 10) (pa_nil)))) (pa_nil)))) (pa_cons (pe_op op_add1 (pe_lst (pa_cons (pe_tup (pa_cons (pv 3) (pa_cons (pe_int) (pa_nil)))) (pa_nil))) (pv 4)) (pa_nil)))))))))) (C8.pss_cut (ps_if (pt_cmpR op_gt (pe_callB call_len1 (by rfl) (He.free_ok Z.X Z.G (Z.k.fact 5 (f := .free "len") rfl)) (by decide +kernel) (pa_cons (pv 4) (pa_nil))) (pe_int) (nomark _)) (pss_cons (ps_set (i := 9) sc_law_rows_of_pairs.nd rfl (by first | exact Or.inl rfl | exact Or.inr rfl) (pe_def (d_law_draw Z) (hr.mono (by first | decide | exact Nat.le_refl _)) (by rfl) passL (pa_cons (pv 0) (pa_cons (pe_callB call_len1 (by rfl) (He.free_ok Z.X Z.G (Z.k.fact 5 (f := .free "len") rfl)) (by decide +kernel) (pa_cons (pv 4) (pa_nil))) (pa_nil))))) (pss_cons (ps_expr (pe_bm PySem.F.plainAttrs_list PySem.F.slot_list_append PySem.F.type_list_append mt_append (pv 11) (pa_cons (pe_lc (own := [("pair", 7)]) rfl sc_law_rows_of_pairs.nd (pi_sq1 (pv 4)) (blkOk_by (N := [("pool" : Str), "columns", "found", "states", "right", "p", "q", "pair", "some", "k", "twice", "made"]) (sc := defScope s_law_rows_of_pairs) (by decide +kernel)) (fun _ _ _ _ _ => pg_name (i := 7) sc_law_rows_of_pairs.nd rfl (by first | exact Or.inl rfl | exact Or.inr rfl)) (fun _ _ _ _ _ => pts_one (PW.pt (pw_and (pt_cmpR (op_ne1 (hu64 hr)) (pv 7) (pe_ix ix_1 (pv 4) (pv 9) (fun _ _ => rfl)) (nomark _)) (pw_and1 (pt_cmpR (op_ne1 (hu64 hr)) (pv 7) (pe_tup (pa_cons (pe_ix ix_1 (pe_ix ix_1 (pv 4) (pv 9) (fun _ _ => rfl)) (pe_int) (fun _ _ => rfl)) (pa_cons (pe_ix ix_1 (pe_ix ix_1 (pv 4) (pv 9) (fun _ _ => rfl)) (pe_int) (fun _ _ => rfl)) (pa_nil)))) (nomark _)))))) (fun _ _ _ _ _ => pv 7)) (pa_nil)))) (pss_cons (ps_expr (pe_bm PySem.F.plainAttrs_list PySem.F.slot_list_append PySem.F.type_list_append mt_append (pv 11) (pa_cons (pe_op op_add1 (pv 4) (pe_lst (pa_cons (pe_tup (pa_cons (pe_op op_sub (pe_ix ix_1 (pe_ix ix_1 (pv 4) (pv 9) (fun _ _ => rfl)) (pe_int) (fun _ _ => rfl)) (pv 3)) (pa_cons (pe_ix ix_1 (pe_ix ix_1 (pv 4) (pv 9) (fun _ _ => rfl)) (pe_int) (fun _ _ => rfl)) (pa_nil)))) (pa_nil)))) (pa_nil)))) (pss_one (ps_expr (pe_bm PySem.F.plainAttrs_list PySem.F.slot_list_append PySem.F.type_list_append mt_append (pv 11) (pa_cons (pe_lst (pa_cons (pe_ix ix_1 (pv 4) (pv 9) (fun _ _ => rfl)) (pa_nil))) (pa_nil)))))))) (pss_nil)) (pss_one (ps_ret (pv 11)))))))))
theorem d_law_rows_of_pairs {P : Program} {w : World} {K : PySem.W.Frag} {mg : Str → Option Value} {base : Heap} (Z : Zz P w K mg base) : DefOk P w K mg base "_law_rows_of_pairs" 2 [("pool" : Str), "columns", "found"] [] (sp_law_rows_of_pairs K) := by
  obtain ⟨fd, F⟩ := Z.c.def_ 25 (d := dd_law_rows_of_pairs) rfl
  have b := F.bindsN (ps := [("pool" : Str), "columns", "found"]) fun _ _ _ _ _ _ us hl => match us, hl with | [_, _, _], _ => rfl
  exact ⟨_, fd, [], o_law_rows_of_pairs Z F, (He.glo_ok Z.X Z.G (Z.k.fact 72 (f := .glo "_law_rows_of_pairs") rfl)), F.kp, b, .nil⟩
theorem sc_law : FnScope [("script" : Str), "pool", "cues", "replies", "columns", "states", "rows", "control", "found", "told", "resets", "pair", "pairs", "due", "given", "k", "feed", "j", "at", "again"] [("script" : Str)] (defScope s_law) := ⟨rfl, rfl, rfl, by decide +kernel, rfl, by decide +kernel, by decide +kernel⟩
theorem o_law {P : Program} {w : World} {K : PySem.W.Frag} {mg : Str → Option Value} {base : Heap} (Z : Zz P w K mg base) {fd : FuncData} (F : FunD K dd_law.name dd_law.qual dd_law.params dd_law.body dd_law.scope (dd_law.dvs K) (dd_law.kws K) (He.fAd K dd_law.at_) fd) : FnOk P w K mg base (L2.CX P w) 6 (He.fAd K dd_law.at_) fd [("script" : Str)] (sp_law K) := by
  refine F.ok sc_law (fun vs H Q E h => ?_) (fun cdv A outer s H vs Q E hr h => ⟨t_law K E, PSs.nox ?_, pure_law Z.k vs H Q E h⟩)
  · obtain ⟨_, _, e, _⟩ := h; rw [e]; rfl
  · exact pss_cons (ps_set (i := 1) sc_law.nd rfl (by first | exact Or.inl rfl | exact Or.inr rfl) (pe_def (d_law_pool Z) (hr.mono (by first | decide | exact Nat.le_refl _)) (by rfl) passL (pa_cons (pv 0) (pa_cons (pe_int) (pa_nil))))) (pss_cons (ps_set (i := 2) sc_law.nd rfl (by first | exact Or.inl rfl | exact Or.inr rfl) (pe_op op_add1 (pe_int) (pe_def (d_law_draw Z) (hr.mono (by first | decide | exact Nat.le_refl _)) (by rfl) passL (pa_cons (pv 1) (pa_cons (pe_int) (pa_nil)))))) (pss_cons (ps_set (i := 3) sc_law.nd rfl (by first | exact Or.inl rfl | exact Or.inr rfl) (pe_op op_add1 (pe_int) (pe_def (d_law_draw Z) (hr.mono (by first | decide | exact Nat.le_refl _)) (by rfl) passL (pa_cons (pv 1) (pa_cons (pe_int) (pa_nil)))))) (C8.pss_cut (ps_if (pt_cmpR (op_eq1 (hu64 hr)) (pe_def (d_law_draw Z) (hr.mono (by first | decide | exact Nat.le_refl _)) (by rfl) passL (pa_cons (pv 1) (pa_cons (pe_int) (pa_nil)))) (pe_int) (nomark _)) (pss_one (ps_set (i := 2) sc_law.nd rfl (by first | exact Or.inl rfl | exact Or.inr rfl) (pe_op op_add1 (pe_int) (pe_def (d_law_draw Z) (hr.mono (by first | decide | exact Nat.le_refl _)) (by rfl) passL (pa_cons (pv 1) (pa_cons (pe_int) (pa_nil))))))) (pss_nil)) (pss_cons (ps_set (i := 4) sc_law.nd rfl (by first | exact Or.inl rfl | exact Or.inr rfl) (pe_def (d_law_nexts Z) (hr.mono (by first | decide | exact Nat.le_refl _)) (by rfl) passL (pa_cons (pv 0) (pa_cons (pv 1) (pa_cons (pv 2) (pa_cons (pe_op op_add1 (pe_int) (pe_def (d_law_draw Z) (hr.mono (by first | decide | exact Nat.le_refl _)) (by rfl) passL (pa_cons (pv 1) (pa_cons (pe_int) (pa_nil))))) (pa_nil))))))) (C8.pss_cut (ps_if (pt_cmpR (op_eq1 (hu64 hr)) (pe_def (d_law_draw Z) (hr.mono (by first | decide | exact Nat.le_refl _)) (by rfl) passL (pa_cons (pv 1) (pa_cons (pe_int) (pa_nil)))) (pe_int) (nomark _)) (pss_cons (ps_set (i := 2) sc_law.nd rfl (by first | exact Or.inl rfl | exact Or.inr rfl) (pe_int)) (pss_cons (ps_set (i := 4) sc_law.nd rfl (by first | exact Or.inl rfl | exact Or.inr rfl) (pe_def (d_law_turning Z) (hr.mono (by first | decide | exact Nat.le_refl _)) (by rfl) passL (pa_cons (pe_op op_add1 (pe_int) (pe_def (d_law_draw Z) (hr.mono (by first | decide | exact Nat.le_refl _)) (by rfl) passL (pa_cons (pv 1) (pa_cons (pe_int) (pa_nil))))) (pa_nil)))) (pss_one (ps_if (pt_cmpR (op_eq1 (hu64 hr)) (pe_def (d_law_draw Z) (hr.mono (by first | decide | exact Nat.le_refl _)) (by rfl) passL (pa_cons (pv 1) (pa_cons (pe_int) (pa_nil)))) (pe_int) (nomark _)) (pss_one (ps_set (i := 4) sc_law.nd rfl (by first | exact Or.inl rfl | exact Or.inr rfl) (pe_def (d_law_turning Z) (hr.mono (by first | decide | exact Nat.le_refl _)) (by rfl) passL (pa_cons (pe_op op_add1 (pe_int) (pe_def (d_law_draw Z) (hr.mono (by first | decide | exact Nat.le_refl _)) (by rfl) passL (pa_cons (pv 1) (pa_cons (pe_int) (pa_nil))))) (pa_nil))))) (pss_nil))))) (pss_nil)) (pss_cons (ps_set (i := 5) sc_law.nd rfl (by first | exact Or.inl rfl | exact Or.inr rfl) (pe_callB call_len1 (by rfl) (He.free_ok Z.X Z.G (Z.k.fact 5 (f := .free "len") rfl)) (by decide +kernel) (pa_cons (pe_ix ix_1 (pv 4) (pe_int) (fun _ _ => rfl)) (pa_nil)))) (pss_cons (ps_set (i := 6) sc_law.nd rfl (by first | exact Or.inl rfl | exact Or.inr rfl) (pe_def (d_law_made Z) (hr.mono (by first | decide | exact Nat.le_refl _)) (by rfl) passL (pa_cons (pv 4) (pa_cons (pv 1) (pa_cons (pv 3) (pa_nil)))))) (pss_cons (ps_set (i := 7) sc_law.nd rfl (by first | exact Or.inl rfl | exact Or.inr rfl) (pe_makeMK (k_kb_Control__init_3_start Z) (hr.mono (by first | decide | exact Nat.le_refl _)) (by rfl) passL (pa_cons (pv 2) (pa_cons (pv 3) (pa_cons (pe_callTy call_list1 (by rfl) (He.free_ok Z.X Z.G (Z.k.fact 23 (f := .free "list") rfl)) (by decide +kernel) (pa_cons (pv 6) (pa_nil))) (pa_nil)))) (pk_cons (pe_def (d_law_draw Z) (hr.mono (by first | decide | exact Nat.le_refl _)) (by rfl) passL (pa_cons (pv 1) (pa_cons (pv 5) (pa_nil)))) (pk_nil)))) (pss_cons (ps_set (i := 8) sc_law.nd rfl (by first | exact Or.inl rfl | exact Or.inr rfl) (pe_def (d_law_merging Z) (hr.mono (by first | decide | exact Nat.le_refl _)) (by rfl) passL (pa_cons (pv 4) (pa_nil)))) (pss_cons (ps_set (i := 9) sc_law.nd rfl (by first | exact Or.inl rfl | exact Or.inr rfl) (pe_def (d_reset_verdict Z) (hr.mono (by first | decide | exact Nat.le_refl _)) (by rfl) passL (pa_cons (pv 7) (pa_nil)))) (pss_cons (ps_if (PW.pt (pw_or (pt_not (pt_tr (pe_callB call_isi1 (by rfl) (He.free_ok Z.X Z.G (Z.k.fact 26 (f := .free "isinstance") rfl)) (by decide +kernel) (pa_cons (pv 9) (pa_cons (pe_bltn (v := .ty "tuple") (by rfl) (He.free_ok Z.X Z.G (Z.k.fact 7 (f := .free "tuple") rfl)) (by decide +kernel) rfl) (pa_nil)))) (by intro _; rfl))) (pw_or (pt_cmpR (op_ne1 (hu64 hr)) (pe_callB call_len1 (by rfl) (He.free_ok Z.X Z.G (Z.k.fact 5 (f := .free "len") rfl)) (by decide +kernel) (pa_cons (pv 9) (pa_nil))) (pe_int) (nomark _)) (pw_or1 (pt_not (pt_tr (pe_callB call_isi1 (by rfl) (He.free_ok Z.X Z.G (Z.k.fact 26 (f := .free "isinstance") rfl)) (by decide +kernel) (pa_cons (pe_ix ix_1 (pv 9) (pe_int) (fun _ _ => rfl)) (pa_cons (pe_bltn (v := .ty "str") (by rfl) (He.free_ok Z.X Z.G (Z.k.fact 28 (f := .free "str") rfl)) (by decide +kernel) rfl) (pa_nil)))) (by intro _; rfl))))))) (pss_one (ps_ret (pe_bl))) (pss_nil)) (pss_cons (ps_set (i := 10) sc_law.nd rfl (by first | exact Or.inl rfl | exact Or.inr rfl) (pe_cmpR (op_eq1 (hu64 hr)) (pe_callB call_lenD1 (by rfl) (He.free_ok Z.X Z.G (Z.k.fact 5 (f := .free "len") rfl)) (by decide +kernel) (pa_cons (pv 8) (pa_nil))) (pe_op op_mul1 (pv 5) (pv 5)) (nomark _))) (C8.pss_cut (ps_if (pt_tr (pv 10) (by intro _; rfl)) (pss_cons (ps_if (PW.pt (pw_or (pt_cmpR (op_ne1 (hu64 hr)) (pe_ix ix_1 (pv 9) (pe_int) (fun _ _ => rfl)) (pe_str) (nomark _)) (pw_or (pt_not (pt_tr (pe_def (d_law_is_feed Z) (hr.mono (by first | decide | exact Nat.le_refl _)) (by rfl) passL (pa_cons (pe_ix ix_1 (pv 9) (pe_int) (fun _ _ => rfl)) (pa_cons (pv 2) (pa_nil)))) (by intro _; rfl))) (pw_or1 (pt_cmpR (op_ne1 (hu64 hr)) (pe_callB call_len1 (by rfl) (He.free_ok Z.X Z.G (Z.k.fact 5 (f := .free "len") rfl)) (by decide +kernel) (pa_cons (pe_def (d_law_ends Z) (hr.mono (by first | decide | exact Nat.le_refl _)) (by rfl) passL (pa_cons (pv 4) (pa_cons (pe_ix ix_1 (pv 9) (pe_int) (fun _ _ => rfl)) (pa_nil)))) (pa_nil))) (pe_int) (nomark _)))))) (pss_one (ps_ret (pe_bl))) (pss_nil)) (pss_one (ps_if (PW.pt (pw_or (pt_cmpR op_gt (pe_callB call_len1 (by rfl) (He.free_ok Z.X Z.G (Z.k.fact 5 (f := .free "len") rfl)) (by decide +kernel) (pa_cons (pe_ix ix_1 (pv 9) (pe_int) (fun _ _ => rfl)) (pa_nil))) (pe_op op_fdivW (pe_op op_mul1 (pe_op op_mul1 (pe_op op_sub (pv 5) (pe_int)) (pv 5)) (pe_op op_sub (pv 5) (pe_int))) (pe_int)) (nomark _)) (pw_or1 (pt_not (pt_tr (pe_def (d_law_same Z 4) (hr.mono (by first | decide | exact Nat.le_refl _)) (by rfl) passL (pa_cons (pe_def (d_law_asked Z) (hr.mono (by first | decide | exact Nat.le_refl _)) (by rfl) passL (pa_cons (pv 7) (pa_cons (pe_ix ix_1 (pv 9) (pe_int) (fun _ _ => rfl)) (pa_nil)))) (pa_cons (pe_tup (pa_cons (pe_str) (pa_cons (pe_bl) (pa_nil)))) (pa_nil)))) (by intro _; rfl)))))) (pss_one (ps_ret (pe_bl))) (pss_nil)))) (pss_cons (ps_if (PW.pt (pw_or (pt_cmpR (op_ne1 (hu64 hr)) (pe_ix ix_1 (pv 9) (pe_int) (fun _ _ => rfl)) (pe_str) (nomark _)) (pw_or1 (pt_not (pt_tr (pe_callB call_isi1 (by rfl) (He.free_ok Z.X Z.G (Z.k.fact 26 (f := .free "isinstance") rfl)) (by decide +kernel) (pa_cons (pe_ix ix_1 (pv 9) (pe_int) (fun _ _ => rfl)) (pa_cons (pe_bltn (v := .ty "tuple") (by rfl) (He.free_ok Z.X Z.G (Z.k.fact 7 (f := .free "tuple") rfl)) (by decide +kernel) rfl) (pa_nil)))) (by intro _; rfl)))))) (pss_one (ps_ret (pe_bl))) (pss_nil)) (pss_cons (ps_for PassesOwn.never rfl (pi_sq1 (pe_ix ix_1 (pv 9) (pe_int) (fun _ _ => rfl))) (pg_name (i := 11) sc_law.nd rfl (by first | exact Or.inl rfl | exact Or.inr rfl)) (pss_one (ps_if (PW.pt (pw_or (pt_not (pt_tr (pe_def (d_law_is_feed Z) (hr.mono (by first | decide | exact Nat.le_refl _)) (by rfl) passL (pa_cons (pv 11) (pa_cons (pv 5) (pa_nil)))) (by intro _; rfl))) (pw_or1 (pt_cmpR (op_ne1 (hu64 hr)) (pe_callB call_len1 (by rfl) (He.free_ok Z.X Z.G (Z.k.fact 5 (f := .free "len") rfl)) (by decide +kernel) (pa_cons (pv 11) (pa_nil))) (pe_int) (nomark _))))) (pss_one (ps_ret (pe_bl))) (pss_nil)))) (pss_one (ps_if (PW.pt (pw_or (pt_not (pt_tr (pe_def (d_law_never Z) (hr.mono (by first | decide | exact Nat.le_refl _)) (by rfl) passL (pa_cons (pv 4) (pa_cons (pe_ix ix_1 (pv 9) (pe_int) (fun _ _ => rfl)) (pa_nil)))) (by intro _; rfl))) (pw_or1 (pt_not (pt_tr (pe_def (d_law_same Z 4) (hr.mono (by first | decide | exact Nat.le_refl _)) (by rfl) passL (pa_cons (pe_def (d_shows_never Z) (hr.mono (by first | decide | exact Nat.le_refl _)) (by rfl) passL (pa_cons (pv 7) (pa_cons (pe_ix ix_1 (pv 9) (pe_int) (fun _ _ => rfl)) (pa_nil)))) (pa_cons (pe_bl) (pa_nil)))) (by intro _; rfl)))))) (pss_one (ps_ret (pe_bl))) (pss_nil)))))) (pss_cons (ps_set (i := 1) sc_law.nd rfl (by first | exact Or.inl rfl | exact Or.inr rfl) (pe_def (d_law_pool Z) (hr.mono (by first | decide | exact Nat.le_refl _)) (by rfl) passL (pa_cons (pv 0) (pa_cons (pe_int) (pa_nil))))) (pss_cons (ps_for PassesOwn.never rfl (pi_sq1 (pe_def (d_law_rows_of_pairs Z) (hr.mono (by first | decide | exact Nat.le_refl _)) (by rfl) passL (pa_cons (pv 1) (pa_cons (pv 4) (pa_cons (pv 8) (pa_nil)))))) (pg_name (i := 12) sc_law.nd rfl (by first | exact Or.inl rfl | exact Or.inr rfl)) (pss_cons (ps_set (i := 13) sc_law.nd rfl (by first | exact Or.inl rfl | exact Or.inr rfl) (pe_def (d_law_never Z) (hr.mono (by first | decide | exact Nat.le_refl _)) (by rfl) passL (pa_cons (pv 4) (pa_cons (pv 12) (pa_nil))))) (pss_cons (ps_set (i := 14) sc_law.nd rfl (by first | exact Or.inl rfl | exact Or.inr rfl) (pe_callTy call_list1 (by rfl) (He.free_ok Z.X Z.G (Z.k.fact 23 (f := .free "list") rfl)) (by decide +kernel) (pa_cons (pv 12) (pa_nil)))) (pss_cons (ps_if (PW.pt (pw_or (PW.pt (pw_and (pt_tr (pv 13) (by intro _; rfl)) (pw_and1 (pt_tr (pv 10) (by intro _; rfl))))) (pw_or (pt_not (pt_tr (pe_def (d_law_same Z 4) (hr.mono (by first | decide | exact Nat.le_refl _)) (by rfl) passL (pa_cons (pe_def (d_shows_never Z) (hr.mono (by first | decide | exact Nat.le_refl _)) (by rfl) passL (pa_cons (pv 7) (pa_cons (pv 14) (pa_nil)))) (pa_cons (pv 13) (pa_nil)))) (by intro _; rfl))) (pw_or1 (pt_cmpR (op_ne1 (hu64 hr)) (pv 14) (pv 12) (nomark _)))))) (pss_one (ps_ret (pe_bl))) (pss_nil)) (pss_one (ps_if (pt_not (pt_tr (pe_def (d_law_same Z 4) (hr.mono (by first | decide | exact Nat.le_refl _)) (by rfl) passL (pa_cons (pe_def (d_shows_never Z) (hr.mono (by first | decide | exact Nat.le_refl _)) (by rfl) passL (pa_cons (pv 7) (pa_cons (pe_callTy call_tuple1 (by rfl) (He.free_ok Z.X Z.G (Z.k.fact 7 (f := .free "tuple") rfl)) (by decide +kernel) (pa_cons (pv 12) (pa_nil))) (pa_nil)))) (pa_cons (pv 13) (pa_nil)))) (by intro _; rfl))) (pss_one (ps_ret (pe_bl))) (pss_nil))))))) (pss_cons (ps_for PassesOwn.never rfl (pi_range1 (by rfl) (He.free_ok Z.X Z.G (Z.k.fact 15 (f := .free "range") rfl)) (pa_cons (pe_int) (pa_nil))) (pg_name (i := 15) sc_law.nd rfl (by first | exact Or.inl rfl | exact Or.inr rfl)) (pss_cons (ps_setLc (i := 16) (own := [("j", 17)]) rfl sc_law.nd rfl rfl (sw_true rfl rfl rfl (by decide +kernel)) (pi_range1 (by rfl) (He.free_ok Z.X Z.G (Z.k.fact 15 (f := .free "range") rfl)) (pa_cons (pe_def (d_law_draw Z) (hr.mono (by first | decide | exact Nat.le_refl _)) (by rfl) passL (pa_cons (pv 1) (pa_cons (pe_int) (pa_nil)))) (pa_nil))) (blkOk_by (N := [("script" : Str), "pool", "cues", "replies", "columns", "states", "rows", "control", "found", "told", "resets", "pair", "pairs", "due", "given", "k", "feed", "j", "at", "again"]) (sc := defScope s_law) (by decide +kernel)) (fun _ _ _ _ _ => pg_name (i := 17) sc_law.nd rfl (by first | exact Or.inl rfl | exact Or.inr rfl)) (fun _ _ _ _ _ => pts_nil) (fun _ _ _ _ _ => pe_def (d_law_draw Z) (hr.mono (by first | decide | exact Nat.le_refl _)) (by rfl) passL (pa_cons (pv 1) (pa_cons (pv 2) (pa_nil))))) (pss_cons (ps_set (i := 13) sc_law.nd rfl (by first | exact Or.inl rfl | exact Or.inr rfl) (pe_cmpR (op_eq1 (hu64 hr)) (pe_callB call_len1 (by rfl) (He.free_ok Z.X Z.G (Z.k.fact 5 (f := .free "len") rfl)) (by decide +kernel) (pa_cons (pe_def (d_law_ends Z) (hr.mono (by first | decide | exact Nat.le_refl _)) (by rfl) passL (pa_cons (pv 4) (pa_cons (pv 16) (pa_nil)))) (pa_nil))) (pe_int) (nomark _))) (pss_cons (ps_if (PW.pt (pw_or (PW.pt (pw_and (pt_tr (pv 13) (by intro _; rfl)) (pw_and1 (pt_not (pt_tr (pv 10) (by intro _; rfl)))))) (pw_or1 (pt_not (pt_tr (pe_def (d_law_same Z 4) (hr.mono (by first | decide | exact Nat.le_refl _)) (by rfl) passL (pa_cons (pe_def (d_law_asked Z) (hr.mono (by first | decide | exact Nat.le_refl _)) (by rfl) passL (pa_cons (pv 7) (pa_cons (pe_callTy call_list1 (by rfl) (He.free_ok Z.X Z.G (Z.k.fact 23 (f := .free "list") rfl)) (by decide +kernel) (pa_cons (pv 16) (pa_nil))) (pa_nil)))) (pa_cons (pe_tup (pa_cons (pe_str) (pa_cons (pv 13) (pa_nil)))) (pa_nil)))) (by intro _; rfl)))))) (pss_one (ps_ret (pe_bl))) (pss_nil)) (pss_cons (ps_set (i := 18) sc_law.nd rfl (by first | exact Or.inl rfl | exact Or.inr rfl) (pe_def (d_law_draw Z) (hr.mono (by first | decide | exact Nat.le_refl _)) (by rfl) passL (pa_cons (pv 1) (pa_cons (pe_op op_add1 (pe_callB call_len1 (by rfl) (He.free_ok Z.X Z.G (Z.k.fact 5 (f := .free "len") rfl)) (by decide +kernel) (pa_cons (pv 16) (pa_nil))) (pe_int)) (pa_nil))))) (pss_cons (ps_expr (pe_bm PySem.F.plainAttrs_list PySem.F.slot_list_insert PySem.F.type_list_insert mt_insert1 (pv 16) (pa_cons (pv 18) (pa_cons (pe_ix ix_1 (pe_lst (pa_cons (pv 2) (pa_cons (pe_op op_sub (pe_un un_neg1 (pe_int)) (pe_def (d_law_draw Z) (hr.mono (by first | decide | exact Nat.le_refl _)) (by rfl) passL (pa_cons (pv 1) (pa_cons (pe_op op_pow1 (pe_int) (pe_int)) (pa_nil))))) (pa_nil)))) (pe_def (d_law_draw Z) (hr.mono (by first | decide | exact Nat.le_refl _)) (by rfl) passL (pa_cons (pv 1) (pa_cons (pe_int) (pa_nil)))) (fun _ _ => rfl)) (pa_nil))))) (pss_one (ps_if (pt_not (pt_tr (pe_def (d_law_same Z 4) (hr.mono (by first | decide | exact Nat.le_refl _)) (by rfl) passL (pa_cons (pe_def (d_law_asked Z) (hr.mono (by first | decide | exact Nat.le_refl _)) (by rfl) passL (pa_cons (pv 7) (pa_cons (pe_callTy call_tuple1 (by rfl) (He.free_ok Z.X Z.G (Z.k.fact 7 (f := .free "tuple") rfl)) (by decide +kernel) (pa_cons (pe_op op_add1 (pv 16) (pe_lst (pa_cons (pv 2) (pa_nil)))) (pa_nil))) (pa_nil)))) (pa_cons (pe_tup (pa_cons (pe_str) (pa_cons (pv 18) (pa_nil)))) (pa_nil)))) (by intro _; rfl))) (pss_one (ps_ret (pe_bl))) (pss_nil))))))))) (pss_cons (ps_set (i := 19) sc_law.nd rfl (by first | exact Or.inl rfl | exact Or.inr rfl) (pe_def (d_reset_verdict Z) (hr.mono (by first | decide | exact Nat.le_refl _)) (by rfl) passL (pa_cons (pe_makeM (mk_Control__init Z) (hr.mono (by first | decide | exact Nat.le_refl _)) (by rfl) passL (pa_cons (pv 2) (pa_cons (pe_int) (pa_cons (pe_def (d_law_made Z) (hr.mono (by first | decide | exact Nat.le_refl _)) (by rfl) passL (pa_cons (pv 4) (pa_cons (pe_def (d_law_pool Z) (hr.mono (by first | decide | exact Nat.le_refl _)) (by rfl) passL (pa_cons (pe_lst (pa_nil)) (pa_cons (pe_int) (pa_nil)))) (pa_cons (pe_int) (pa_nil))))) (pa_nil))))) (pa_nil)))) (pss_one (ps_ret (pe_and (pe_cmpR (op_eq1 (hu64 hr)) (pe_ix ix_1 (pv 19) (pe_int) (fun _ _ => rfl)) (pe_ix ix_1 (pv 9) (pe_int) (fun _ _ => rfl)) (nomark _)) (pe_one (pe_def (d_law_same Z 4) (hr.mono (by first | decide | exact Nat.le_refl _)) (by rfl) passL (pa_cons (pe_ix ix_1 (pe_def (d_reset_verdict Z) (hr.mono (by first | decide | exact Nat.le_refl _)) (by rfl) passL (pa_cons (pv 7) (pa_nil))) (pe_int) (fun _ _ => rfl)) (pa_cons (pe_ix ix_1 (pv 9) (pe_int) (fun _ _ => rfl)) (pa_nil)))))))))))))))))))))))))
theorem d_law {P : Program} {w : World} {K : PySem.W.Frag} {mg : Str → Option Value} {base : Heap} (Z : Zz P w K mg base) : DefOk P w K mg base "law" 6 [("script" : Str)] [] (sp_law K) := by
  obtain ⟨fd, F⟩ := Z.c.def_ 26 (d := dd_law) rfl
  have b := F.bindsN (ps := [("script" : Str)]) fun _ _ _ _ _ _ us hl => match us, hl with | [_], _ => rfl
  exact ⟨_, fd, [], o_law Z F, (He.glo_ok Z.X Z.G (Z.k.fact 0 (f := .glo "law") rfl)), F.kp, b, .nil⟩
/-! ## the head, and the law -/
abbrev R : PySem.W.OpenRow := PySem.W.OpenLaw.row PySem.Challenge.rw_gatesofcloth_k79_whole_resets_or_never
def loose : List Str := ([("_wall" : Str), ("FabricError" : Str), ("SizeError" : Str), ("BitsError" : Str), ("MachineError" : Str), ("ProgramError" : Str), ("CircuitError" : Str), ("NetlistError" : Str)] : List Str) ++ ([("FanoutError" : Str), ("ColouringError" : Str), ("EdgeError" : Str), ("PathError" : Str), ("TapeError" : Str), ("StoreError" : Str), ("HistoryError" : Str), ("CommandError" : Str)] : List Str) ++ ([("ControlError" : Str), ("FeedError" : Str), ("ExchangeError" : Str), ("check_feed" : Str), ("state_from" : Str), ("_is_entry" : Str), ("Control" : Str), ("Search" : Str)] : List Str) ++ ([("RESETS" : Str), ("NEVER" : Str), ("_ordered" : Str), ("_following" : Str), ("_merging_search" : Str), ("reset_verdict" : Str), ("shows_reset" : Str), ("shows_never" : Str)] : List Str) ++ ([("_law_pool" : Str), ("_law_draw" : Str), ("_law_same" : Str), ("_law_is_feed" : Str), ("_law_asked" : Str), ("_law_nexts" : Str), ("_law_turning" : Str), ("_law_made" : Str)] : List Str) ++ ([("_law_merging" : Str), ("_law_never" : Str), ("_law_ends" : Str), ("_law_rows_of_pairs" : Str)] : List Str)
abbrev hk : PySem.W.Hook := hookM 5 fa fn cms es FILE ex
def ob (s : PySem.W.SharedT) : AlM := obsM 5 fa fn cms es FILE ex (HandSHeadRun.getT s)
theorem ob_eq (s : PySem.W.SharedT) : ob s = hk.obs s.abs := obsM_eq (HandSHeadRun.getT_eq s)
theorem run (w : World) : HandSHeadRun.RunEq R (PySem.W.view R.prog [50]) hk ob 8000 loose w := by
  intro os
  kernel_rfl
theorem facts {P : Program} {w : World} {K : PySem.W.Frag} {h : Heap} {mg : Str → Option Value} {f : Addr} (X : K.In h) (G : h.Ns mainGlobals mg) (hfa : mg ("law" : Str) = some (.ref f)) (c : SaysM fa fn cms es FILE ex K) (hpf : (P.main.file == FILE) = true) (hpt : (P.main.scope.names.lookup ("super" : Str)).isSome = false) :
    ∃ fd : FuncData, (∀ (s : Shared) (v : Value), BindsTo s fd ⟨[v], []⟩ [("script", v)]) ∧ ∀ base : Heap, K.In base → base.Ns mainGlobals mg → FnOk P w K mg base (L2.CX P w) 6 f fd ["script"] (sp_law K) := by
  have cd := c.d
  have κ : KF K := ⟨fun i f h => cd.fact i h, c.more⟩
  obtain ⟨fd, F⟩ := cd.def_ 26 (d := dd_law) rfl
  have e := hfa.symm.trans (He.glo_ok X G (κ.fact 0 (f := .glo "law") rfl))
  cases e
  have b := FunD.bindsA (ps := ["script"]) F fun _ _ _ _ _ _ us hl => match us, hl with | [_], _ => rfl
  exact ⟨fd, fun s v => b s [v] rfl, fun base hb hn => o_law ⟨hb, hn, cd, κ, c.op, hpf, hpt, fun i {d} h => c.err i h, fun i {d} h => c.cmd i h⟩ F⟩
end My
open PySem PySem.W PySem.Calls PyProof.Rows
theorem PySem.Challenge.cw_gatesofcloth_k79_whole_resets_or_never_holds : PySem.Challenge.rw_gatesofcloth_k79_whole_resets_or_never.Holds := by
  w_on; o_law
  refine HandSHeadRun.head_any (r := My.R) (q := view My.R.prog [50]) (H := My.hk) (ob := My.ob) (M := 8000) (loose := My.loose) (d := HandSHeadRun.topDef My.R.prog 50) (kwd := []) My.ob_eq
    (by kernel_rfl) (fun s => by kernel_rfl) My.run (by kernel_rfl) (by kernel_rfl) (by kernel_rfl) (by rfl) (by first | assumption | decide +kernel) (by decide +kernel) ⟨rfl, rfl, rfl, rfl, rfl, by decide +kernel⟩ ?hw ?hc
  case hw => w_witness2
  case hc =>
    refine My.walk_mine (l := PySem.Challenge.rw_gatesofcloth_k79_whole_resets_or_never) (n := 63) (k := 6) (x := "script") rfl (by decide) (by kernel_rfl) ⟨rfl, by decide, by decide⟩ ?_
    intro w mg fa h Y G hmg0
    obtain ⟨K, KX, c⟩ := Y
    have hmg : mg ("law" : PySem.Str) = some (.ref fa) := by
      have e : (HandSHeadRun.topDef My.R.prog 50).name = ("law" : PySem.Str) := by kernel_rfl
      rw [← e]
      exact hmg0
    obtain ⟨fd, hb, hF⟩ := My.facts (P := (PySem.Challenge.rw_gatesofcloth_k79_whole_resets_or_never).prog) (w := w) KX G hmg c (by kernel_rfl) (by kernel_rfl)
    exact ⟨K, fd, My.sp_law K, KX, hb, fun H a ns hl hS => ⟨a, ns, rfl, hS, hl, fun _ => rfl⟩, hF⟩

