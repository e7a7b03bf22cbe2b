import PyProof.Rows.All
import Wide.All
import OpenK.AllK
import Wide.FinOn
import HandS.ForMost
import HandS.Sort
import HandS.SortRule
import HandS.SortInts
import HandS.IsInst
import HandS.Strs
import HandS.Zip
import HandS.Flow
import HandS.Defaults
import HandS.Exc
import HandS.TryOnly
import HandS.ExcOwn
import HandS.WordsExc
import HandS.Walk
import HandS.HeadHook2
import HandS.NoneIn
import KE.LtData
import KE.KStateDown
import HandS.Head0
import HandS.Head1
import HandS.Head2
import HandS.HeadEnd
import HandS.HeadHook1
import PySem.Challenge.RW_wornpages_k73_whole_no_way_is_less
set_option Elab.async false
set_option linter.all false
set_option maxRecDepth 100000
set_option maxHeartbeats 4000000
namespace Wn
open PySem L2

/-! ### cells with owners -/
def isPers : HO → Bool
  | .tup _ => true
  | .frz _ _ => true
  | _ => false
def Pers (H H' : Hp) : Prop := ∀ b o, isPers o = true → H b = some o → H' b = some o
theorem Pers.refl (H : Hp) : Pers H H := fun _ _ _ h => h
theorem Pers.trans {H H1 H2 : Hp} (a : Pers H H1) (b : Pers H1 H2) : Pers H H2 := fun c o p h => b c o p (a c o p h)
theorem Pers.tup {H H' : Hp} (p : Pers H H') {a : Addr} {xs : List V} (h : H a = some (.tup xs)) : H' a = some (.tup xs) := p a _ rfl h
theorem Pers.frz {H H' : Hp} (p : Pers H H') {a : Addr} {o : Obj} {u : HO} (h : H a = some (.frz o u)) : H' a = some (.frz o u) := p a _ rfl h
theorem Pers.new {H : Hp} {p : Addr} {o : HO} (h : H p = none) : Pers H (upd H p o) := fun b u _ e => by
  rw [upd_ne (ne_of_none e h)]; exact e
theorem Pers.upd {H : Hp} {p : Addr} {o o' : HO} (h : H p = some o) (n : isPers o = false) : Pers H (upd H p o') := fun b u q e => by
  have : b ≠ p := by
    intro z; subst z; rw [h] at e; cases e; rw [n] at q; cases q
  rw [upd_ne this]; exact e
theorem Pers.sqT {K : PySem.W.Frag} {H H' : Hp} (p : Pers H H') {a : Addr} {xs : List V} (h : SqT K H a xs) : SqT K H' a xs := by
  rcases h with (h | ⟨o, h⟩) | h
  · exact .inl (.inl (p.tup h))
  · exact .inl (.inr ⟨o, p.frz h⟩)
  · exact .inr h

structure BO where
  sat : Hp → Addr → List Addr → Prop
  loc : ∀ H H' a fp, sat H a fp → (∀ b ∈ fp, H' b = H b) → Pers H H' → sat H' a fp
  own : ∀ H a fp, sat H a fp → ∀ b ∈ fp, ∃ o, H b = some o
abbrev Cell := Addr × BO
def Sat (H : Hp) (c : Cell) (fp : List Addr) : Prop := c.2.sat H c.1 fp
def Rel (H : Hp) (L : List Cell) : Prop := ∃ fps : List (List Addr), Paired (Sat H) L fps ∧ fps.flatten.Nodup

def raw (o : HO) : BO where
  sat H a fp := H a = some o ∧ fp = [a]
  loc H H' a fp h k _ := by obtain ⟨h, rfl⟩ := h; exact ⟨(k a (by simp)).trans h, rfl⟩
  own H a fp h b hb := by obtain ⟨h, rfl⟩ := h; simp at hb; subst hb; exact ⟨_, h⟩

def seqO (K : PySem.W.Frag) (xs : List V) : BO where
  sat H a fp := (H a = some (.lst xs) ∧ fp = [a]) ∨ (fp = [] ∧ SqL K H a xs ∧ ∀ H', Pers H H' → SqL K H' a xs)
  loc H H' a fp h k p := by
    rcases h with ⟨h, rfl⟩ | ⟨rfl, h, h2⟩
    · exact .inl ⟨(k a (by simp)).trans h, rfl⟩
    · exact .inr ⟨rfl, h2 H' p, fun H2 p2 => h2 H2 (p.trans p2)⟩
  own H a fp h b hb := by
    rcases h with ⟨h, rfl⟩ | ⟨rfl, _⟩
    · simp at hb; subst hb; exact ⟨_, h⟩
    · simp at hb

theorem all_loc {H H' : Hp} (p : Pers H H') : ∀ {L : List Cell} {fps : List (List Addr)}, Paired (Sat H) L fps → (∀ b ∈ fps.flatten, H' b = H b) → Paired (Sat H') L fps
  | _, _, .nil, _ => .nil
  | _, _, .cons r t, k => .cons (BO.loc _ _ _ _ _ r (fun b hb => k b (by simp [hb])) p) (all_loc p t fun b hb => k b (by simp only [List.flatten_cons, List.mem_append]; exact .inr hb))
theorem all_own {H : Hp} : ∀ {L : List Cell} {fps : List (List Addr)}, Paired (Sat H) L fps → ∀ b ∈ fps.flatten, ∃ o, H b = some o
  | _, _, .nil, b, hb => by simp at hb
  | _, _, .cons r t, b, hb => by
    simp only [List.flatten_cons, List.mem_append] at hb
    rcases hb with hb | hb
    · exact BO.own _ _ _ _ r b hb
    · exact all_own t b hb

/-- an object made of cells -/
def exO {X : Type} (cells : X → Addr → List Cell) (P : X → Addr → Prop) : BO where
  sat H a fp := ∃ x, P x a ∧ ∃ fps, Paired (Sat H) (cells x a) fps ∧ fp = fps.flatten
  loc H H' a fp h k p := by
    obtain ⟨x, q, fps, r, rfl⟩ := h
    exact ⟨x, q, fps, all_loc p r k, rfl⟩
  own H a fp h b hb := by
    obtain ⟨x, q, fps, r, rfl⟩ := h
    exact all_own r b hb

theorem paired_app {α β : Type} {S : α → β → Prop} : ∀ {a b : List α} {c d : List β}, Paired S a c → Paired S b d → Paired S (a ++ b) (c ++ d)
  | _, _, _, _, .nil, h => h
  | _, _, _, _, .cons r t, h => .cons r (paired_app t h)
theorem paired_split {α β : Type} {S : α → β → Prop} : ∀ {a b : List α} {e : List β}, Paired S (a ++ b) e → ∃ c d, e = c ++ d ∧ Paired S a c ∧ Paired S b d
  | [], _, e, h => ⟨[], e, rfl, .nil, h⟩
  | x :: a, b, _, .cons r t => by
    obtain ⟨c, d, rfl, h1, h2⟩ := paired_split (a := a) (b := b) t
    exact ⟨_ :: c, d, rfl, .cons r h1, h2⟩

theorem Rel.open_ {X : Type} {cells : X → Addr → List Cell} {P : X → Addr → Prop} {H : Hp} {a : Addr} {L : List Cell} (R : Rel H ((a, exO cells P) :: L)) : ∃ x, P x a ∧ Rel H (cells x a ++ L) := by
  obtain ⟨fps, r, nd⟩ := R
  cases r with
  | cons r t =>
    obtain ⟨x, q, gs, r, rfl⟩ := r
    exact ⟨x, q, gs ++ _, paired_app r t, by simpa using nd⟩
theorem Rel.close_ {X : Type} {cells : X → Addr → List Cell} {P : X → Addr → Prop} {H : Hp} {a : Addr} {L : List Cell} (x : X) (q : P x a) (R : Rel H (cells x a ++ L)) : Rel H ((a, exO cells P) :: L) := by
  obtain ⟨fps, r, nd⟩ := R
  obtain ⟨c, d, rfl, h1, h2⟩ := paired_split r
  exact ⟨c.flatten :: d, .cons ⟨x, q, c, h1, rfl⟩ h2, by simpa using nd⟩

inductive Sel (c : Cell) : List Cell → List Cell → Prop where
  | here {L} : Sel c (c :: L) L
  | there {d L L'} : Sel c L L' → Sel c (d :: L) (d :: L')
theorem Sel.fps {c : Cell} {H : Hp} {L L' : List Cell} (s : Sel c L L') : ∀ {fps : List (List Addr)}, Paired (Sat H) L fps → ∃ f gs, Sat H c f ∧ Paired (Sat H) L' gs ∧ (f ++ gs.flatten).Perm fps.flatten := by
  induction s with
  | here => intro fps h; cases h with | cons r t => exact ⟨_, _, r, t, by simp⟩
  | there s ih =>
    intro fps h
    cases h with
    | cons r t =>
      obtain ⟨f, gs, h1, h2, p⟩ := ih t
      refine ⟨f, _ :: gs, h1, .cons r h2, ?_⟩
      simp only [List.flatten_cons]
      refine (List.Perm.trans ?_ (List.Perm.append_left _ p))
      rw [← List.append_assoc, ← List.append_assoc]
      exact List.Perm.append_right _ List.perm_append_comm
theorem Rel.sel {c : Cell} {H : Hp} {L L' : List Cell} (R : Rel H L) (s : Sel c L L') : Rel H (c :: L') := by
  obtain ⟨fps, r, nd⟩ := R
  obtain ⟨f, gs, h1, h2, p⟩ := s.fps r
  exact ⟨f :: gs, .cons h1 h2, p.nodup_iff.mpr nd⟩
theorem Rel.drop {c : Cell} {H : Hp} {L : List Cell} (R : Rel H (c :: L)) : Rel H L := by
  obtain ⟨fps, r, nd⟩ := R
  cases r with
  | cons r t => exact ⟨_, t, (List.nodup_append.mp (by simpa using nd)).2.1⟩
theorem Rel.nil {H : Hp} : Rel H [] := ⟨[], .nil, List.nodup_nil⟩
theorem Rel.raw0 {H : Hp} {a : Addr} {o : HO} {L : List Cell} (R : Rel H ((a, raw o) :: L)) : H a = some o := by
  obtain ⟨fps, r, nd⟩ := R
  cases r with | cons r t => exact r.1
theorem Rel.at {H : Hp} {a : Addr} {o : HO} {L L' : List Cell} (R : Rel H L) (s : Sel (a, raw o) L L') : H a = some o := (R.sel s).raw0
theorem Rel.pers {H H' : Hp} {L : List Cell} (R : Rel H L) (p : Pers H H') (k : ∀ b o, H b = some o → H' b = some o) : Rel H' L := by
  obtain ⟨fps, r, nd⟩ := R
  exact ⟨fps, all_loc p r (fun b hb => by obtain ⟨o, e⟩ := all_own r b hb; rw [e, k b o e]), nd⟩
theorem Rel.put0 {H : Hp} {a : Addr} {o o' : HO} {L : List Cell} (R : Rel H ((a, raw o) :: L)) (n : isPers o = false) : Rel (upd H a o') ((a, raw o') :: L) := by
  have h0 := R.raw0
  obtain ⟨fps, r, nd⟩ := R
  cases r with
  | cons r t =>
    obtain ⟨h, rfl⟩ := r
    refine ⟨[a] :: _, .cons ⟨upd_same, rfl⟩ (all_loc (Pers.upd h n) t fun b hb => ?_), nd⟩
    rw [upd_ne]
    rintro rfl
    simp at nd
    obtain ⟨l, hl, hb⟩ := List.mem_flatten.mp hb
    exact nd.1 l hl hb
theorem Rel.put {H : Hp} {a : Addr} {o o' : HO} {L L' : List Cell} (R : Rel H L) (s : Sel (a, raw o) L L') (n : isPers o = false := by rfl) : Rel (upd H a o') ((a, raw o') :: L') := (R.sel s).put0 n
theorem Rel.new {H : Hp} {a : Addr} {o : HO} {L : List Cell} (R : Rel H L) (h : H a = none) : Rel (upd H a o) ((a, raw o) :: L) := by
  obtain ⟨fps, r, nd⟩ := R
  refine ⟨[a] :: fps, .cons ⟨upd_same, rfl⟩ (all_loc (Pers.new h) r fun b hb => ?_), ?_⟩
  · obtain ⟨o, e⟩ := all_own r b hb
    rw [upd_ne (ne_of_none e h)]
  · simp only [List.flatten_cons, List.cons_append, List.nil_append, List.nodup_cons]
    refine ⟨fun hb => ?_, nd⟩
    obtain ⟨o, e⟩ := all_own r a hb
    rw [h] at e; cases e
theorem Rel.seq0 {K : PySem.W.Frag} {H : Hp} {a : Addr} {xs : List V} {L : List Cell} (R : Rel H ((a, seqO K xs) :: L)) : SqL K H a xs := by
  obtain ⟨fps, r, nd⟩ := R
  cases r with
  | cons r t =>
    rcases r with ⟨h, _⟩ | ⟨_, h, _⟩
    · exact .inl (.inl h)
    · exact h
/-- what is read as a list: a cell of ours or a sequence -/
inductive Lst (K : PySem.W.Frag) (a : Addr) (xs : List V) (L : List Cell) : Prop where
  | raw {L'} : Sel (a, raw (.lst xs)) L L' → Lst K a xs L
  | seq {L'} : Sel (a, seqO K xs) L L' → Lst K a xs L
theorem Lst.sq {K : PySem.W.Frag} {a : Addr} {xs : List V} {L : List Cell} {H : Hp} (l : Lst K a xs L) (R : Rel H L) : SqL K H a xs := by
  cases l with
  | raw s => exact .inl (.inl (R.at s))
  | seq s => exact (R.sel s).seq0
theorem Rel.ofSq {K : PySem.W.Frag} {H : Hp} {a : Addr} {xs : List V} (h : SqL K H a xs) : Rel H [(a, seqO K xs)] := by
  by_cases hl : H a = some (.lst xs)
  · exact ⟨[[a]], .cons (.inl ⟨hl, rfl⟩) .nil, by simp⟩
  · refine ⟨[[]], .cons (.inr ⟨rfl, h, fun H' p => ?_⟩) .nil, by simp⟩
    rcases h with (h | ⟨o, h⟩) | h
    · exact absurd h hl
    · exact .inl (.inr ⟨o, p.frz h⟩)
    · exact .inr h
/-- a tuple: never changes, owned by nobody -/
def tupO (xs : List V) : BO where
  sat H a fp := H a = some (.tup xs) ∧ fp = []
  loc H H' a fp h k p := ⟨p.tup h.1, h.2⟩
  own H a fp h b hb := by rw [h.2] at hb; simp at hb
theorem Rel.tup0 {H : Hp} {a : Addr} {xs : List V} {L : List Cell} (R : Rel H ((a, tupO xs) :: L)) : H a = some (.tup xs) := by
  obtain ⟨fps, r, nd⟩ := R
  cases r with | cons r t => exact r.1
theorem Rel.tup {H : Hp} {a : Addr} {xs : List V} {L L' : List Cell} (R : Rel H L) (s : Sel (a, tupO xs) L L') : H a = some (.tup xs) := (R.sel s).tup0
theorem Rel.asTup {H : Hp} {a : Addr} {xs : List V} {L : List Cell} (R : Rel H ((a, raw (.tup xs)) :: L)) : Rel H ((a, tupO xs) :: L) := by
  obtain ⟨fps, r, nd⟩ := R
  cases r with
  | cons r t => exact ⟨[] :: _, .cons ⟨r.1, rfl⟩ t, by simp at nd ⊢; rw [r.2] at nd; exact (List.nodup_cons.mp nd).2⟩
/-- what is known of a tuple is a cell -/
theorem Rel.addTup {H : Hp} {a : Addr} {xs : List V} {L : List Cell} (R : Rel H L) (h : H a = some (.tup xs)) : Rel H ((a, tupO xs) :: L) := by
  obtain ⟨fps, r, nd⟩ := R
  exact ⟨[] :: fps, .cons ⟨h, rfl⟩ r, by simpa using nd⟩
theorem Rel.newTup {H : Hp} {a : Addr} {xs : List V} {L : List Cell} (R : Rel H L) (h : H a = none) : Rel (upd H a (.tup xs)) ((a, tupO xs) :: L) := (R.new h).asTup
/-- several cells at once -/
inductive Sels : List Cell → List Cell → List Cell → Prop where
  | nil {L} : Sels [] L L
  | cons {c cs L L1 L2} : Sel c L L1 → Sels cs L1 L2 → Sels (c :: cs) L L2
theorem Sel.app {c : Cell} {L L' : List Cell} (s : Sel c L L') (M : List Cell) : Sel c (L ++ M) (L' ++ M) := by
  induction s with
  | here => exact .here
  | there s ih => exact .there ih
theorem Rel.toFront {H : Hp} {c : Cell} : ∀ {A B : List Cell}, Rel H (c :: (A ++ B)) → Rel H (A ++ c :: B) := by
  intro A B ⟨fps, r, nd⟩
  cases r with
  | cons r t =>
    obtain ⟨x, y, rfl, h1, h2⟩ := paired_split t
    refine ⟨x ++ _ :: y, paired_app h1 (.cons r h2), ?_⟩
    refine (List.Perm.nodup_iff ?_).mpr nd
    simp only [List.flatten_append, List.flatten_cons]
    rw [← List.append_assoc, ← List.append_assoc]
    exact List.Perm.append_right _ List.perm_append_comm
theorem Rel.sels {cs : List Cell} {H : Hp} {L L' : List Cell} (R : Rel H L) (s : Sels cs L L') : Rel H (cs ++ L') := by
  induction s with
  | nil => exact R
  | cons s t ih =>
    rename_i c cs L L1 L2
    have R1 := R.sel s
    obtain ⟨fps, r, nd⟩ := R1
    cases r with
    | cons r t' =>
      rename_i f fps
      -- the rest by induction, keeping c in front
      have key : ∀ {L L2 : List Cell} {cs : List Cell}, Sels cs L L2 → ∀ {fps : List (List Addr)}, Paired (Sat H) L fps → ∃ gs, Paired (Sat H) (cs ++ L2) gs ∧ gs.flatten.Perm fps.flatten := by
        intro L L2 cs s
        induction s with
        | nil => intro fps h; exact ⟨fps, h, List.Perm.refl _⟩
        | cons s1 s2 ih2 =>
          intro fps h
          obtain ⟨f, gs, h1, h2, p⟩ := s1.fps h
          obtain ⟨gs2, h3, p2⟩ := ih2 h2
          exact ⟨f :: gs2, .cons h1 h3, (List.Perm.append_left f p2).trans p⟩
      obtain ⟨gs, h3, p3⟩ := key t t'
      exact ⟨f :: gs, .cons r h3, ((List.Perm.append_left f p3).nodup_iff).mpr nd⟩
end Wn
namespace Wn
open PySem L2

/-! ### steps through a reading -/
section
variable {K : PySem.W.Frag} {σ : St} {H : Hp} {Q : VK} {D : Ends} {ta tb tc te : TE} {t u : TS} {g : TG} {tt tu : TT} {tar : TA} {v w x y : V} {i : Nat} {L L' : List Cell}
theorem go_var (h : σ[i]? = some (some v)) (q : Q v H) : tVar i σ H Q := ⟨v, h, q⟩
theorem go_c (q : Q v H) : tC v σ H Q := q
theorem go_op {r : R2} (q : ta σ H fun x H1 => tb σ H1 fun y H2 => r x y H2 Q) : tOp r ta tb σ H Q := q
theorem go_un {r : V → Hp → VK → Prop} (q : ta σ H fun x H1 => r x H1 Q) : tUn r ta σ H Q := q
theorem go_I0 {f : Int → Int → V} {m n : Int} (q : Q (f m n) H) : rI0 f (.int m) (.int n) H Q := ⟨m, n, rfl, rfl, q⟩
theorem go_I {C : Int → Int → Prop} {f : Int → Int → V} {m n : Int} (c : C m n) (q : Q (f m n) H) : rI C f (.int m) (.int n) H Q := ⟨m, n, rfl, rfl, c, q⟩
theorem go_U {f : Int → V} {m : Int} (q : Q (f m) H) : rU f (.int m) H Q := ⟨m, rfl, q⟩
theorem go_eq (c : scal x y = true) (q : Q (.bl (decide (x = y))) H) : rEq x y H Q := ⟨c, q⟩
theorem go_ne (c : scal x y = true) (q : Q (.bl (!decide (x = y))) H) : rNe x y H Q := ⟨c, q⟩
theorem go_test (q : ta σ H fun x H' => ∃ k, x = .bl k ∧ Qb k H') : tTest ta σ H Qb := q
theorem go_B {Qb : Bool → Hp → Prop} (q : ta σ H fun x H' => ∃ k, x = .bl k ∧ Qb k H') : tB ta σ H Qb := q
theorem go_bl {Pb : Bool → Prop} {b : Bool} (q : Pb b) : ∃ k, V.bl b = .bl k ∧ Pb k := ⟨b, rfl, q⟩
theorem go_and {Qb : Bool → Hp → Prop} (q : tt σ H fun c H1 => if c = true then tu σ H1 Qb else Qb false H1) : tAnd tt tu σ H Qb := q
theorem go_or {Qb : Bool → Hp → Prop} (q : tt σ H fun c H1 => if c = true then Qb true H1 else tu σ H1 Qb) : tOr tt tu σ H Qb := q
theorem go_not {Qb : Bool → Hp → Prop} (q : tt σ H fun c H1 => Qb (!c) H1) : tNot tt σ H Qb := q
theorem go_andV (q : ta σ H fun x H1 => ∃ c, x = .bl c ∧ if c = true then tb σ H1 Q else Q (.bl false) H1) : tAndV ta tb σ H Q := q
theorem go_orV (q : ta σ H fun x H1 => ∃ c, x = .bl c ∧ if c = true then Q (.bl true) H1 else tb σ H1 Q) : tOrV ta tb σ H Q := q
theorem go_notV (q : ta σ H fun x H1 => ∃ c, x = .bl c ∧ Q (.bl (!c)) H1) : tNotV ta σ H Q := q
theorem go_chain {r r' : R2} (q : ta σ H fun x H1 => tb σ H1 fun y H2 => r x y H2 fun z H3 => ∃ k, z = .bl k ∧ (if k = true then tc σ H3 fun w' H4 => r' y w' H4 Q else Q (.bl false) H3)) : tChain r r' ta tb tc σ H Q := q
theorem go_ifE (q : tt σ H fun c H1 => if c = true then ta σ H1 Q else tb σ H1 Q) : tIf tt ta tb σ H Q := q
theorem go_seq (q : t { D with nx := u D } σ H) : tSeq t u D σ H := q
theorem go_asg (q : te σ H fun x H1 => g x σ H1 D.nx) : tAsg te g D σ H := q
theorem go_name {Qs : St → Hp → Prop} (q : Qs (σ.set i (some v)) H) : gName i v σ H Qs := q
theorem go_ifS (q : tt σ H fun b H1 => if b = true then t D σ H1 else u D σ H1) : tIfS tt t u D σ H := q
theorem go_ret (q : te σ H D.rt) : tRet te D σ H := q
theorem go_retN (q : D.rt .non H) : tRetN D σ H := q
theorem go_next (q : D.nx σ H) : tNext D σ H := q
theorem go_brk (q : D.bk σ H) : tBreak D σ H := q
theorem go_cont (q : D.ct σ H) : tCont D σ H := q
theorem go_drop (q : te σ H fun _ H1 => D.nx σ H1) : tDrop te D σ H := q
theorem go_cons {Qa : List V → Hp → Prop} (q : ta σ H fun x H1 => tar σ H1 fun xs H2 => Qa (x :: xs) H2) : tCons ta tar σ H Qa := q
theorem go_nil {Qa : List V → Hp → Prop} (q : Qa [] H) : tNil σ H Qa := q
theorem go_aug {ti : TIp} (h : σ[i]? = some (some x)) (q : te σ H fun y H1 => ti x y H1 fun z H2 => D.nx (σ.set i (some z)) H2) : tAug i te ti D σ H := ⟨x, h, q⟩
theorem go_ipI {f : Int → Int → Int} {m n : Int} (q : Q (.int (f m n)) H) : ipI f (.int m) (.int n) H Q := ⟨m, n, rfl, rfl, q⟩
theorem go_isN (q : Q (.bl (decide (x = .non))) H) : (fun x y H Q => y = .non ∧ Q (.bl (decide (x = .non))) H : R2) x .non H Q := ⟨rfl, q⟩
theorem ite_d {p : Prop} [Decidable p] {A B : Prop} (h1 : p → A) (h2 : ¬ p → B) : if decide p = true then A else B := by
  by_cases h : p
  · rw [if_pos (decide_eq_true h)]; exact h1 h
  · rw [if_neg (by rw [decide_eq_true_iff]; exact h)]; exact h2 h
theorem ite_b {b : Bool} {A B : Prop} (h1 : b = true → A) (h2 : b = false → B) : if b = true then A else B := by
  cases b with
  | true => exact h1 rfl
  | false => exact h2 rfl
theorem ite_nd {p : Prop} [Decidable p] {A B : Prop} (h1 : ¬ p → A) (h2 : p → B) : if (!decide p) = true then A else B := by
  by_cases h : p
  · rw [decide_eq_true h]; exact h2 h
  · rw [decide_eq_false h]; exact h1 h
theorem ite_t {b : Bool} {A B : Prop} (h : b = true) (h1 : A) : if b = true then A else B := by subst h; exact h1
theorem ite_f {b : Bool} {A B : Prop} (h : b = false) (h1 : B) : if b = true then A else B := by subst h; exact h1

/-! fields, lists, tuples by cells -/
structure ClsF (K : PySem.W.Frag) (C : Addr) (fields : List Str) : Prop where
  cls : Cls K C
  na : ∀ f ∈ fields, NoAttr K C f
/-- x.f, x known -/
def FldAt (K : PySem.W.Frag) (f : Str) (Q : VK) (x : V) (H : Hp) : Prop := ∃ a C dx fs v, x = .ref a ∧ H a = some (.ins C dx fs) ∧ Cls K C ∧ NoAttr K C f ∧ fs.lookup f = some v ∧ Q v H
theorem go_fld {f : Str} (q : ta σ H (FldAt K f Q)) : tFld K ta f σ H Q := q
theorem fld_at {a C dx : Addr} {fs : List (Str × V)} {f : Str} {F : List Str} (T : ClsF K C F) (R : Rel H L) (s : Sel (a, raw (.ins C dx fs)) L L') (hf : f ∈ F) (hl : fs.lookup f = some v) (q : Q v H) : FldAt K f Q (.ref a) H := ⟨a, C, dx, fs, v, rfl, R.at s, T.cls, T.na f hf, hl, q⟩
theorem ixL_at {a : Addr} {xs : List V} {n : Int} (R : Rel H L) (l : Lst K a xs L) (h : atI xs n = some v) (q : Q v H) : rIxL K (.ref a) (.int n) H Q := ⟨a, xs, n, v, rfl, rfl, l.sq R, h, q⟩
theorem ixT_at {a : Addr} {xs : List V} {n : Int} (R : Rel H L) (s : Sel (a, tupO xs) L L') (h : atI xs n = some v) (q : Q v H) : rIxT K (.ref a) (.int n) H Q := ⟨a, xs, n, v, rfl, rfl, .inl (.inl (R.tup s)), h, q⟩
def NewL (Q : VK) (xs : List V) (H : Hp) : Prop := xs.length ≤ sizeLine ∧ ∀ p, H p = none → Q (.ref p) (upd H p (.lst xs))
def NewT (Q : VK) (xs : List V) (H : Hp) : Prop := xs.length ≤ sizeLine ∧ ∀ p, H p = none → Q (.ref p) (upd H p (.tup xs))
theorem lst_new {xs : List V} (R : Rel H L) (hl : xs.length ≤ 1000000) (q : ∀ a H', Rel H' ((a, raw (.lst xs)) :: L) → Q (.ref a) H') : NewL Q xs H :=
  ⟨by rw [PySem.sizeLine_eq]; omega, fun p hp => q p _ (R.new hp)⟩
theorem tup_new {xs : List V} (R : Rel H L) (hl : xs.length ≤ 1000000) (q : ∀ a H', Rel H' ((a, tupO xs) :: L) → Q (.ref a) H') : NewT Q xs H :=
  ⟨by rw [PySem.sizeLine_eq]; omega, fun p hp => q p _ (R.newTup hp)⟩
theorem go_tup (q : tar σ H (NewT Q)) : tTup tar σ H Q := q
theorem go_lst (q : tar σ H (NewL Q)) : tLst tar σ H Q := q
theorem go_CB {r : List V → Hp → VK → Prop} (q : tar σ H fun vs H1 => r vs H1 Q) : tCB r tar σ H Q := q
end
/-! ### promises by cells -/
/-- from the cells `pre` to the answers and cells `post` -/
def SpS (P : List V → List Cell → (V → List Cell → Prop) → Prop) : Sp := fun vs H Q _ => ∃ L pre F, Rel H L ∧ Sels pre L F ∧ P vs pre fun v post => ∀ H', Rel H' (post ++ F) → Q v H'
theorem SpS.use {P : List V → List Cell → (V → List Cell → Prop) → Prop} {vs : List V} {H : Hp} {Q : VK} {E : XK} (h : SpS P vs H Q E) : ∃ pre F, Rel H (pre ++ F) ∧ P vs pre fun v post => ∀ H', Rel H' (post ++ F) → Q v H' := by
  obtain ⟨L, pre, F, R, s, p⟩ := h
  exact ⟨pre, F, R.sels s, p⟩
theorem SpS.call {P : List V → List Cell → (V → List Cell → Prop) → Prop} {vs : List V} {H : Hp} {Q : VK} {E : XK} {L pre F : List Cell} (R : Rel H L) (s : Sels pre L F) (p : P vs pre fun v post => ∀ H', Rel H' (post ++ F) → Q v H') : SpS P vs H Q E := ⟨L, pre, F, R, s, p⟩

/-! ### loops by cells -/
def InvS (I : St → List Cell → Prop) : St → Hp → Prop := fun σ H => ∃ L, Rel H L ∧ I σ L
structure WkS (J : It) (n : Nat) (G : List Cell → Prop) (Y : Nat → V → List Cell → Prop) : Prop where
  w : Walk J n (fun H => ∃ L, Rel H L ∧ G L) (fun i H x H' => ∀ L, Rel H L → G L → ∃ cs, Y i x cs ∧ Rel H' (cs ++ L))
theorem for_s {J : It} {n : Nat} {G : List Cell → Prop} {Y : Nat → V → List Cell → Prop} (w : WkS J n G Y) {g : TG} {tb : TS} {D : Ends} {σ : St} {H : Hp} {L : List Cell} (I : Nat → St → List Cell → Prop) (R : Rel H L) (h0 : I 0 σ L)
    (hG : ∀ i σ L, i ≤ n → I i σ L → G L)
    (hs : ∀ i x cs σ H L, i < n → I i σ L → Y i x cs → Rel H (cs ++ L) → g x σ H fun σ2 H2 => tb { D with nx := InvS (I (i + 1)), ct := InvS (I (i + 1)), bk := D.nx } σ2 H2)
    (hd : ∀ σ H L, Rel H L → I n σ L → D.nx σ H) :
    ∃ W : Nat → Nat → St → Hp → Prop, (∃ m, W 0 m σ H) ∧ ∀ i m σ H, W i m σ H →
      (J.stop i H ∧ D.nx σ H) ∨ (J.go i H ∧ ∃ N : St → Hp → Prop, (∀ σ' H', N σ' H' → ∃ m', m' < m ∧ W (i + 1) m' σ' H') ∧ ∀ x H', J.yld i H x H' → g x σ H' fun σ2 H2 => tb { D with nx := N, ct := N, bk := D.nx } σ2 H2) := by
  refine for_it w.w (fun i => InvS (I i)) ⟨L, R, h0⟩ (fun i σ H hi ⟨L, R, h⟩ => ⟨L, R, hG i σ L hi h⟩) (fun i x σ H H' hi ⟨L, R, h⟩ y => ?_) fun σ H ⟨L, R, h⟩ => hd σ H L R h
  obtain ⟨cs, hy, R'⟩ := y L R (hG i σ L (Nat.le_of_lt hi) h)
  exact hs i x cs σ H' L hi h hy R'
/-- a comprehension's list D so far, and the other cells -/
def InvC (I : Nat → List V → List Cell → Prop) (i : Nat) (D : Addr) (H : Hp) : Prop := ∃ acc L, Rel H ((D, raw (.lst acc)) :: L) ∧ acc.length ≤ i ∧ I i acc L
theorem lc_put {I : Nat → List V → List Cell → Prop} {i : Nat} {D : Addr} {H : Hp} {acc : List V} {y : V} {L L' : List Cell} (R : Rel H L) (s : Sel (D, raw (.lst acc)) L L') (hl : acc.length ≤ i) (hi : i < 100000) (h : I (i + 1) (acc ++ [y]) L') :
    ∃ acc', H D = some (.lst acc') ∧ acc'.length < sizeLine ∧ InvC I (i + 1) D (upd H D (.lst (acc' ++ [y]))) :=
  ⟨acc, R.at s, by rw [PySem.sizeLine_eq]; omega, acc ++ [y], L', R.put s, by simp; omega, h⟩
theorem lc_not {I : Nat → List V → List Cell → Prop} {i : Nat} {D : Addr} {H : Hp} {acc : List V} {L L' : List Cell} (R : Rel H L) (s : Sel (D, raw (.lst acc)) L L') (hl : acc.length ≤ i) (h : I (i + 1) acc L') : InvC I (i + 1) D H :=
  ⟨acc, L', R.sel s, by omega, h⟩
inductive Drops : List Cell → List Cell → Prop where
  | refl {L} : Drops L L
  | skip {c L L'} : Drops L L' → Drops (c :: L) L'
theorem Rel.drops {H : Hp} {F : List Cell} : ∀ {A L : List Cell}, Drops L F → Rel H (A ++ L) → Rel H (A ++ F) := by
  intro A L d
  induction d with
  | refl => exact id
  | skip d ih =>
    rename_i c L L'
    intro R
    refine ih ?_
    obtain ⟨fps, r, nd⟩ := R
    obtain ⟨x, y, rfl, h1, h2⟩ := paired_split r
    cases h2 with
    | cons r t =>
      refine ⟨x ++ _, paired_app h1 t, ?_⟩
      rw [List.flatten_append] at nd ⊢
      rw [List.flatten_cons] at nd
      obtain ⟨n1, n2, n3⟩ := List.nodup_append.mp nd
      obtain ⟨n4, n5, n6⟩ := List.nodup_append.mp n2
      exact List.nodup_append.mpr ⟨n1, n5, fun a ha b hb => n3 a ha b (List.mem_append.mpr (.inr hb))⟩
/-- these cells and what is behind, nothing else -/
theorem Rel.fin {cs : List Cell} {H : Hp} {L L' F : List Cell} (R : Rel H L) (s : Sels cs L L') (d : Drops L' F) : Rel H (cs ++ F) := (R.sels s).drops d
theorem lc_puts {I : Nat → List V → List Cell → Prop} {i : Nat} {D : Addr} {H : Hp} {acc : List V} {y : V} {cs F M M' : List Cell} (hl : acc.length ≤ i) (hi : i < 100000) (h : I (i + 1) (acc ++ [y]) (cs ++ F)) (R : Rel H M) (s : Sels ((D, raw (.lst acc)) :: cs) M M') (d : Drops M' F) :
    ∃ acc', H D = some (.lst acc') ∧ acc'.length < sizeLine ∧ InvC I (i + 1) D (upd H D (.lst (acc' ++ [y]))) := lc_put (R.fin s d) .here hl hi h
theorem lc_nots {I : Nat → List V → List Cell → Prop} {i : Nat} {D : Addr} {H : Hp} {acc : List V} {cs F M M' : List Cell} (hl : acc.length ≤ i) (h : I (i + 1) acc (cs ++ F)) (R : Rel H M) (s : Sels ((D, raw (.lst acc)) :: cs) M M') (d : Drops M' F) : InvC I (i + 1) D H := lc_not (R.fin s d) .here hl h
theorem inv_s {I : L2.St → List Cell → Prop} {σ : L2.St} {H : Hp} {cs F M M' : List Cell} (h : I σ (cs ++ F)) (R : Rel H M) (s : Sels cs M M') (d : Drops M' F) : InvS I σ H := ⟨_, R.fin s d, h⟩
theorem lc_s {J : It} {n : Nat} {G : List Cell → Prop} {Y : Nat → V → List Cell → Prop} (w : WkS J n G Y) {g : TG} {tt : TT} {te : TE} {vs : List Nat} {σ : St} {H : Hp} {Q : VK} {L : List Cell} (I : Nat → List V → List Cell → Prop) (R : Rel H L) (h0 : I 0 [] L)
    (hG : ∀ i acc L D, i ≤ n → I i acc L → G ((D, raw (.lst acc)) :: L))
    (hs : ∀ i x cs acc D H L, i < n → acc.length ≤ i → I i acc L → Y i x cs → Rel H (cs ++ (D, raw (.lst acc)) :: L) → g x (wipe σ vs) H fun σ2 H2 => wipe σ2 vs = wipe σ vs ∧ tt σ2 H2 fun b H3 =>
      if b = true then te σ2 H3 fun y H4 => ∃ acc', H4 D = some (.lst acc') ∧ acc'.length < sizeLine ∧ InvC I (i + 1) D (upd H4 D (.lst (acc' ++ [y]))) else InvC I (i + 1) D H3)
    (hd : ∀ acc D H L, Rel H ((D, raw (.lst acc)) :: L) → I n acc L → Q (.ref D) H) :
    ∀ D, H D = none → ∃ W : Nat → Nat → Hp → Prop, (∃ m, W 0 m (upd H D (.lst []))) ∧ ∀ i m H, W i m H →
      (J.stop i H ∧ Q (.ref D) H) ∨ (J.go i H ∧ ∃ Nx : Hp → Prop, (∀ H', Nx H' → ∃ m', m' < m ∧ W (i + 1) m' H') ∧ ∀ x H', J.yld i H x H' → g x (wipe σ vs) H' fun σ2 H2 => wipe σ2 vs = wipe σ vs ∧ tt σ2 H2 fun b H3 =>
        if b = true then te σ2 H3 fun y H4 => ∃ acc, H4 D = some (.lst acc) ∧ acc.length < sizeLine ∧ Nx (upd H4 D (.lst (acc ++ [y]))) else Nx H3) := by
  intro D hD
  refine lc_it w.w (fun i H => InvC I i D H) ⟨[], L, R.new hD, Nat.zero_le _, h0⟩ (fun i H hi ⟨acc, L, R, hl, h⟩ => ⟨_, R, hG i acc L D hi h⟩) (fun i x H H' hi ⟨acc, L, R, hl, h⟩ y => ?_) fun H ⟨acc, L, R, hl, h⟩ => hd acc D H L R h
  obtain ⟨cs, hy, R'⟩ := y _ R (hG i acc L D (Nat.le_of_lt hi) h)
  exact hs i x cs acc D H' L hi hl h hy R'

section
variable {K : PySem.W.Frag} {a : Addr} {xs : List V}
theorem wk_list : WkS (Itl K a) xs.length (fun L => Lst K a xs L) (fun i x cs => xs[i]? = some x ∧ cs = []) :=
  ⟨(walk_list (K := K) (a := a) (xs := xs)).mono (fun H ⟨L, R, l⟩ => l.sq R) fun i H x H' hi _ y L R l => by
    obtain ⟨rfl, y⟩ := y
    exact ⟨[], ⟨y, rfl⟩, R⟩⟩
theorem wk_tup : WkS (Itt K a) xs.length (fun L => ∃ L', Sel (a, tupO xs) L L') (fun i x cs => xs[i]? = some x ∧ cs = []) :=
  ⟨(walk_tup (K := K) (a := a) (xs := xs)).mono (fun H ⟨L, R, _, s⟩ => .inl (.inl (R.tup s))) fun i H x H' hi _ y L R l => by
    obtain ⟨rfl, y⟩ := y
    exact ⟨[], ⟨y, rfl⟩, R⟩⟩
theorem wk_range {lo : Int} {n : Nat} : WkS (Itr lo n) n (fun _ => True) (fun i x cs => x = .int (lo + i) ∧ cs = []) :=
  ⟨(walk_range (lo := lo) (n := n)).mono (fun _ _ => trivial) fun i H x H' hi _ y L R l => by
    obtain ⟨rfl, y⟩ := y
    exact ⟨[], ⟨y, rfl⟩, R⟩⟩
theorem wk_rangeC {lo c : Int} {n : Nat} : WkS (Itc lo c n) n (fun _ => True) (fun i x cs => x = .int (lo + (i : Nat) * c) ∧ cs = []) :=
  ⟨(walk_rangeC (lo := lo) (c := c) (n := n)).mono (fun _ _ => trivial) fun i H x H' hi _ y L R l => by
    obtain ⟨rfl, y⟩ := y
    exact ⟨[], ⟨y, rfl⟩, R⟩⟩
theorem wk_enum : WkS (Ite K a) xs.length (fun L => Lst K a xs L) (fun i x cs => ∃ T y, xs[i]? = some y ∧ x = .ref T ∧ cs = [(T, tupO [.int (i : Nat), y])]) :=
  ⟨(walk_enum (K := K) (a := a) (xs := xs)).mono (fun H ⟨L, R, l⟩ => l.sq R) fun i H x H' hi _ y L R l => by
    obtain ⟨T, x1, y1, rfl, hT, rfl, e1, e2⟩ := y
    cases e1
    exact ⟨_, ⟨T, y1, e2, rfl, rfl⟩, R.newTup hT⟩⟩
end

end Wn
namespace Wn
open PySem PySem.Spec PyProof.Rows L2 RZ
/-! ### subscripts of lists read for an operator -/
theorem get_list {X : Cx} : PGet X (rIxL X.K) := by
  intro pins s σ H x y v u Q I rx ry h
  obtain ⟨p, xs, i, z, rfl, rfl, hq, he, q⟩ := h
  cases rx
  obtain ⟨t, rfl⟩ := ry
  obtain ⟨its, r, pl, hz⟩ := I.list hq
  obtain ⟨j, h1, h2, h3, h4, h5⟩ := atI_get he
  obtain ⟨w, ew, rw'⟩ := r.get h2
  have hl := r.length
  have hn := line63
  have fin : EP X pins σ Q w s := ⟨z, H, I, rw', q⟩
  by_cases h0 : 0 ≤ i
  · have hj : i.toNat = j := by
      rw [seqIndex_of h0 h5] at h1
      exact Option.some.inj h1
    exact thn (PySem.wpAny_getItem_list (Q := fun r s' => r = w ∧ EP X pins σ Q r s') pl.isList h0 (by omega) (by rw [hj]; simpa using ew) ⟨rfl, fin⟩) fun a s h => h.2
  · have hj : (i + (its.toArray.size : Int)).toNat = j := by
      rw [seqIndex_neg (by omega) h4] at h1
      rw [List.size_toArray, ← hl]
      exact Option.some.inj h1
    exact thn (PySem.wpAny_getItem_list_neg (Q := fun r s' => r = w ∧ EP X pins σ Q r s') pl.isList (by omega) (by rw [List.size_toArray] <;> omega) (by omega) (by rw [hj]; simpa using ew) ⟨rfl, fin⟩) fun a s h => h.2
/-- len(set(xs)), xs a list of ints -/
def tLenSetD (K : PySem.W.Frag) (ta : TE) : TE := fun σ H Q => ta σ H fun x H1 => ∃ (l : Addr) (ns : List Int), x = .ref l ∧ SqL K H1 l (ns.map V.int) ∧ ns.length ≤ 4000 ∧ Q (.int ((PyProof.Rows.firstMet (fun i => ns.getD i 0) ns.length).length : Nat)) H1
theorem firstMet_len (f : Nat → Int) : ∀ n, (PyProof.Rows.firstMet f n).length ≤ n
  | 0 => Nat.le_refl _
  | n + 1 => by
    rw [PyProof.Rows.firstMet_succ]
    have := firstMet_len f n
    show (if (PyProof.Rows.firstMet f n).any (· == f n) then PyProof.Rows.firstMet f n else PyProof.Rows.firstMet f n ++ [f n]).length ≤ n + 1
    split
    · omega
    · simp; omega
theorem pe_lenSetD {X : Cx} {a : Expr} {ta : TE} {p p2 q pos : Pos} (hg : Gl X "len") (hm : X.mg "len" = none) (hg2 : Gl X "set") (hm2 : X.mg "set" = none) (ha : PE X a ta) (hc : X.calm = true := by rfl)
    (na : starEach [a] X.env = (false, eval a X.env) :: starEach [] X.env := by rfl) : PE X (.Call (.Name "len" p) [.Call (.Name "set" p2) [a] [] q] [] pos) (tLenSetD X.K ta) := by
  refine ⟨fun pins s σ H Q I h => ?_⟩
  refine Call_ (ld_blt I hg hm boot_len ?_)
  refine PyProof.Rows.callWith_builtin1 (PyProof.Rows.args_cons ?_ rfl) rfl rfl
  refine Call_ (ld_blt I hg2 hm2 boot_set ?_)
  refine PyProof.Rows.callWith_type1 (PyProof.Rows.args_cons (thn (ha.run pins s σ H _ I h) fun v s1 ⟨x, H1, I1, r1, q1⟩ => PyProof.Rows.args_nil ?_) na) na rfl
  obtain ⟨l, ns, rfl, hq, hl, q1⟩ := q1
  cases r1
  obtain ⟨its, r, pl, hz⟩ := I1.list hq
  have hlen : its.toArray.size = ns.length := by rw [List.size_toArray, ← r.length, List.length_map]
  refine call_set_list (I1.ok.hd hc) pl.isList (by simpa using intsAre_vals r) (by rw [hlen]; unfold scanBound; omega) fun h' tk hS hk => ?_
  refine PyProof.Rows.args_nil ?_
  rw [hlen] at hS
  have hfm := firstMet_len (fun i => ns.getD i 0) ns.length
  obtain ⟨o, es, ep, t, ho, hex, hd, _, _, _, hf, hn⟩ := hS
  have I2 : Inv X pins σ H1 { s1 with heap := h', toks := tk } := I1.kept fun b o e => hk b o (Heap.lt_size e) e
  exact call_len_set ho hex hd hf (by rw [hn] <;> omega) ⟨.int _, H1, I2.tok _, ⟨_, by rw [hn]⟩, q1⟩
end Wn
namespace Wn
open PySem L2
/-! ### readings by name -/
abbrev rAddI : R2 := rI0 fun i j => .int (i + j)
abbrev rSubI : R2 := rI0 fun i j => .int (i - j)
abbrev rMulI : R2 := rI CMul fun i j => .int (i * j)
abbrev rModI : R2 := rI (fun _ j => 0 < j) fun i j => .int (i % j)
abbrev rDivI : R2 := rI CDiv fun i j => .int (i / j)
abbrev rPowI : R2 := rI CPow fun i j => .int (i ^ j.toNat)
abbrev rShlI : R2 := rI CPow fun i j => .int (i * 2 ^ j.toNat)
abbrev rShrI : R2 := rI (fun _ j => 0 ≤ j) fun i j => .int (i / 2 ^ j.toNat)
abbrev rAndI : R2 := rI0 fun i j => .int (Builtin.bitAnd i j)
abbrev rOrI : R2 := rI0 fun i j => .int (Builtin.bitOr i j)
abbrev rNegI : V → Hp → VK → Prop := rU fun i => .int (-i)
abbrev rLtI : R2 := rI0 fun i j => .bl (decide (i < j))
abbrev rLeI : R2 := rI0 fun i j => .bl (decide (i ≤ j))
abbrev rGtI : R2 := rI0 fun i j => .bl (decide (j < i))
abbrev rGeI : R2 := rI0 fun i j => .bl (decide (j ≤ i))
def rIsN : R2 := fun x y H Q => y = .non ∧ Q (.bl (decide (x = .non))) H
def rNotN : R2 := fun x y H Q => y = .non ∧ Q (.bl (!decide (x = .non))) H
def rLenV (K : PySem.W.Frag) : List V → Hp → VK → Prop := fun xs H Q => ∃ x n, xs = [x] ∧ LenV K x H n ∧ Q (.int n) H
def rListOf (K : PySem.W.Frag) : List V → Hp → VK → Prop := fun xs H Q => ∃ p ys, xs = [.ref p] ∧ (SqL K H p ys ∨ SqT K H p ys) ∧ ∀ l, H l = none → Q (.ref l) (upd H l (.lst ys))
def rMax2 : List V → Hp → VK → Prop := fun xs H Q => ∃ i j, xs = [.int i, .int j] ∧ Q (.int (if j > i then j else i)) H
def rMin2 : List V → Hp → VK → Prop := fun xs H Q => ∃ i j, xs = [.int i, .int j] ∧ Q (.int (if j < i then j else i)) H
def rAbsI : List V → Hp → VK → Prop := fun xs H Q => ∃ i, xs = [.int i] ∧ Q (.int (if i < 0 then -i else i)) H
def tChainT (r r' : R2) (ta tb tc : TE) : TT := tTest (tChain r r' ta tb tc)
section
variable {K : PySem.W.Frag} {σ : L2.St} {H : Hp} {Q : VK} {D : Ends} {ta tb tc te : TE} {tar : TA} {x y z v : V} {L L' : List Cell} {a : Addr} {xs : List V}
theorem go_chainT {r r' : R2} {Qb : Bool → Hp → Prop} (q : ta σ H fun x H1 => tb σ H1 fun y H2 => r x y H2 fun z H3 => ∃ k, z = .bl k ∧ (if k = true then tc σ H3 fun w' H4 => r' y w' H4 (fun x H' => ∃ k, x = .bl k ∧ Qb k H') else (fun x H' => ∃ k, x = V.bl k ∧ Qb k H') (.bl false) H3)) : tChainT r r' ta tb tc σ H Qb := q
theorem go_rIsN (q : Q (.bl (decide (x = .non))) H) : rIsN x .non H Q := ⟨rfl, q⟩
theorem go_rNotN (q : Q (.bl (!decide (x = .non))) H) : rNotN x .non H Q := ⟨rfl, q⟩
theorem go_len (R : Rel H L) (l : Lst K a xs L) (q : Q (.int (xs.length : Int)) H) : rLenV K [V.ref a] H Q := ⟨_, xs.length, rfl, .inl ⟨xs, l.sq R, rfl⟩, q⟩
theorem go_listOf (R : Rel H L) (l : Lst K a xs L) (q : ∀ b H', Rel H' ((b, raw (.lst xs)) :: L) → Q (.ref b) H') : rListOf K [V.ref a] H Q := ⟨_, xs, rfl, .inl (l.sq R), fun b hb => q b _ (R.new hb)⟩
theorem go_call {sp : Sp} {dvs : List V} {E : XK} (q : tar σ H fun vs H1 => sp (vs ++ dvs) H1 Q E) : tCall sp dvs E tar σ H Q := q
def MethAt (C : Addr) (m : Str) (sp : Sp) (dvs : List V) (E : XK) (tar : TA) (σ : L2.St) (Q : VK) (x : V) (H1 : Hp) : Prop := ∃ a dx fs, x = .ref a ∧ H1 a = some (.ins C dx fs) ∧ fs.lookup m = none ∧ tar σ H1 fun vs H2 => sp (x :: (vs ++ dvs)) H2 Q E
theorem go_meth {C : Addr} {m : Str} {sp : Sp} {dvs : List V} {E : XK} (q : te σ H (MethAt C m sp dvs E tar σ Q)) : tMeth C m sp dvs E te tar σ H Q := q
theorem meth_at {C dx : Addr} {fs : List (Str × V)} {m : Str} {sp : Sp} {dvs : List V} {E : XK} (h : H a = some (.ins C dx fs)) (hm : fs.lookup m = none) (q : tar σ H fun vs H2 => sp (.ref a :: (vs ++ dvs)) H2 Q E) : MethAt C m sp dvs E tar σ Q (.ref a) H := ⟨a, dx, fs, rfl, h, hm, q⟩
def MakeAt (C : Addr) (sp : Sp) (dvs : List V) (E : XK) (Q : VK) (vs : List V) (H1 : Hp) : Prop := ∀ x dx, H1 x = none → H1 dx = none → dx ≠ x → sp (.ref x :: (vs ++ dvs)) (upd (upd H1 dx (.own x)) x (.ins C dx [])) (fun v H2 => v = .non ∧ Q (.ref x) H2) E
theorem go_make {C : Addr} {sp : Sp} {dvs : List V} {E : XK} (q : tar σ H (MakeAt C sp dvs E Q)) : tMake C sp dvs E tar σ H Q := q
theorem new_ins {C x dx : Addr} (R : Rel H L) (h1 : H x = none) (h2 : H dx = none) (h3 : dx ≠ x) : Rel (upd (upd H dx (.own x)) x (.ins C dx [])) ((x, raw (.ins C dx [])) :: L) :=
  ((R.new h2).drop).new (by rw [upd_ne (Ne.symm h3)]; exact h1)
theorem make_at {C : Addr} {sp : Sp} {dvs : List V} {E : XK} {vs : List V} (R : Rel H L) (q : ∀ x dx H', Rel H' ((x, raw (.ins C dx [])) :: L) → sp (.ref x :: (vs ++ dvs)) H' (fun v H2 => v = .non ∧ Q (.ref x) H2) E) : MakeAt C sp dvs E Q vs H :=
  fun x dx h1 h2 h3 => q x dx _ (new_ins R h1 h2 h3)
def SFldAt (K : PySem.W.Frag) (f : Str) (D : Ends) (σ : L2.St) (y x : V) (H2 : Hp) : Prop := ∃ a C dx fs, x = .ref a ∧ H2 a = some (.ins C dx fs) ∧ Cls K C ∧ NoAttr K C f ∧ fs.length < 1000 ∧ D.nx σ (upd H2 a (.ins C dx (putF f y fs)))
theorem go_sfld {tv : TE} {f : Str} (q : tv σ H fun y H1 => ta σ H1 (SFldAt K f D σ y)) : sFld K ta tv f D σ H := q
theorem sfld_at {a C dx : Addr} {fs gs : List (Str × V)} {f : Str} {y : V} {Fs : List Str} (T : ClsF K C Fs) (R : Rel H L) (s : Sel (a, raw (.ins C dx fs)) L L') (hf : f ∈ Fs) (hl : fs.length < 1000) (hg : putF f y fs = gs)
    (q : ∀ H', Rel H' ((a, raw (.ins C dx gs)) :: L') → D.nx σ H') : SFldAt K f D σ y (.ref a) H :=
  ⟨a, C, dx, fs, rfl, R.at s, T.cls, T.na f hf, hl, q _ (by rw [hg]; exact R.put s)⟩
def SubAt (t : TSet) (Qs : L2.St → Hp → Prop) (σ : L2.St) (v o i : V) (H : Hp) : Prop := t o i v H fun H3 => Qs σ H3
theorem go_sub {to ti : TE} {t : TSet} {Qs : L2.St → Hp → Prop} (q : to σ H fun o H1 => ti σ H1 (SubAt t Qs σ v o)) : gSub to ti t v σ H Qs := q
theorem sub_at {Qs : L2.St → Hp → Prop} {i : Int} {j : Nat} (R : Rel H L) (s : Sel (a, raw (.lst xs)) L L') (hj : ixN xs.length i = some j) (q : ∀ H', Rel H' ((a, raw (.lst (xs.set j v))) :: L') → Qs σ H') : SubAt rSetL Qs σ v (.ref a) (.int i) H :=
  ⟨a, xs, i, j, rfl, rfl, R.at s, hj, q _ (R.put s)⟩
def AugAt (te : TE) (tget : V → V → Hp → VK → Prop) (tip : TIp) (tset : TSet) (D : Ends) (σ : L2.St) (o i : V) (H2 : Hp) : Prop := tget o i H2 fun x H3 => te σ H3 fun y H4 => tip x y H4 fun z H5 => tset o i z H5 fun H6 => D.nx σ H6
theorem go_augS {to ti : TE} {tget : V → V → Hp → VK → Prop} {tip : TIp} {tset : TSet} (q : to σ H fun o H1 => ti σ H1 (AugAt te tget tip tset D σ o)) : tAugS to ti te tget tip tset D σ H := q
theorem aug_at {f : Int → Int → Int} {i m n : Int} {j : Nat} (R : Rel H L) (s : Sel (a, raw (.lst xs)) L L') (hj : ixN xs.length i = some j) (hx : xs[j]? = some (.int m)) (q : ∀ H', Rel H' ((a, raw (.lst (xs.set j (.int (f m n))))) :: L') → D.nx σ H') :
    AugAt (tC (.int n)) (rIxL K) (ipI f) rSetL D σ (.ref a) (.int i) H :=
  ⟨a, xs, i, .int m, rfl, rfl, .inl (.inl (R.at s)), (by unfold atI; rw [hj]; exact hx), m, n, rfl, rfl, a, xs, i, j, rfl, rfl, R.at s, hj, q _ (R.put s)⟩
theorem ixN_of {n : Nat} {i : Int} (h0 : 0 ≤ i) (h : i < n) : ixN n i = some i.toNat := by unfold ixN; rw [if_pos h0, if_pos h]
theorem atI_of {α : Type} {xs : List α} {i : Int} {x : α} (h0 : 0 ≤ i) (h : xs[i.toNat]? = some x) : atI xs i = some x := by
  have hl : i.toNat < xs.length := (List.getElem?_eq_some_iff.mp h).1
  unfold atI
  rw [ixN_of h0 (by omega)]
  exact h
theorem cutV_drop {xs : List V} {i : Nat} : cutV xs (some (i : Int)) none = xs.drop i := by
  unfold cutV
  rw [HT.sIx_nat, HT.sIx_none]
  by_cases h : i ≤ xs.length
  · rw [Nat.min_eq_left h, List.take_of_length_le (by simp)]
  · rw [Nat.min_eq_right (by omega), List.drop_length, List.drop_of_length_le (by omega)]; simp
theorem cutV_take {xs : List V} {i : Nat} : cutV xs none (some (i : Int)) = xs.take i := by
  unfold cutV
  rw [HT.sIx_nat, HT.sIx_none]
  show (xs.drop 0).take (min i xs.length - 0) = _
  rw [List.drop_zero, Nat.sub_zero, List.take_eq_take_min (i := i)]
/-! what is walked -/
/-- a for over J, ready to be shown by an invariant -/
def ForJ (g : TG) (tb : TS) (D : Ends) (σ : L2.St) (J : It) (H1 : Hp) : Prop := ∃ W : Nat → Nat → L2.St → Hp → Prop, (∃ m, W 0 m σ H1) ∧ ∀ i m σ H, W i m σ H →
      (J.stop i H ∧ D.nx σ H) ∨ (J.go i H ∧ ∃ N : L2.St → Hp → Prop, (∀ σ' H', N σ' H' → ∃ m', m' < m ∧ W (i + 1) m' σ' H') ∧ ∀ x H', J.yld i H x H' → g x σ H' fun σ2 H2 => tb { D with nx := N, ct := N, bk := D.nx } σ2 H2)
def LcJ (g : TG) (tt : TT) (te : TE) (vs : List Nat) (σ : L2.St) (Q : VK) (J : It) (H1 : Hp) : Prop := ∀ D, H1 D = none → ∃ W : Nat → Nat → Hp → Prop, (∃ m, W 0 m (upd H1 D (.lst []))) ∧ ∀ i m H, W i m H →
  (J.stop i H ∧ Q (.ref D) H) ∨ (J.go i H ∧ ∃ Nx : Hp → Prop, (∀ H', Nx H' → ∃ m', m' < m ∧ W (i + 1) m' H') ∧ ∀ x H', J.yld i H x H' → g x (wipe σ vs) H' fun σ2 H2 => wipe σ2 vs = wipe σ vs ∧ tt σ2 H2 fun b H3 =>
    if b = true then te σ2 H3 fun y H4 => ∃ acc, H4 D = some (.lst acc) ∧ acc.length < sizeLine ∧ Nx (upd H4 D (.lst (acc ++ [y]))) else Nx H3)
theorem go_for {wi : TI} {g : TG} {tb : TS} (q : wi σ H (ForJ g tb D σ)) : tFor wi g tb D σ H := q
theorem go_lc {wi : TI} {g : TG} {tt : TT} {te : TE} {ws : List Nat} (q : wi σ H (LcJ g tt te ws σ Q)) : tLc wi g tt te ws σ H Q := q
def IListAt (K : PySem.W.Frag) (Rj : It → Hp → Prop) (x : V) (H1 : Hp) : Prop := ∃ a, x = .ref a ∧ (∃ xs, SqL K H1 a xs) ∧ Rj (Itl K a) H1
def ITupAt (K : PySem.W.Frag) (Rj : It → Hp → Prop) (x : V) (H1 : Hp) : Prop := ∃ a, x = .ref a ∧ (∃ xs, SqT K H1 a xs) ∧ Rj (Itt K a) H1
def IEnumAt (K : PySem.W.Frag) (Rj : It → Hp → Prop) (vs : List V) (H1 : Hp) : Prop := ∃ a xs, vs = [.ref a] ∧ SqL K H1 a xs ∧ Rj (Ite K a) H1
def IRng1At (Rj : It → Hp → Prop) (vs : List V) (H1 : Hp) : Prop := ∃ j : Int, vs = [.int j] ∧ -(2 ^ 62) ≤ j ∧ j < 2 ^ 62 ∧ Rj (Itr 0 j.toNat) H1
def IRng2At (Rj : It → Hp → Prop) (vs : List V) (H1 : Hp) : Prop := ∃ i j : Int, vs = [.int i, .int j] ∧ (-(2 ^ 62) ≤ i ∧ i < 2 ^ 62 ∧ -(2 ^ 62) ≤ j ∧ j < 2 ^ 62) ∧ Rj (Itr i (j - i).toNat) H1
variable {Rj : It → Hp → Prop}
theorem go_iList (q : te σ H (IListAt K Rj)) : iList K te σ H Rj := q
theorem go_iTup (q : te σ H (ITupAt K Rj)) : iTup K te σ H Rj := q
theorem go_iEnum (q : tar σ H (IEnumAt K Rj)) : iEnum K tar σ H Rj := q
theorem go_iRng1 (q : tar σ H (IRng1At Rj)) : iRng1 tar σ H Rj := q
theorem go_iRng2 (q : tar σ H (IRng2At Rj)) : iRng2 tar σ H Rj := q
theorem rng1_at {n : Int} (h0 : 0 ≤ n) (hn : n ≤ 1000000) (q : Rj (Itr 0 n.toNat) H) : IRng1At Rj [V.int n] H := ⟨n, rfl, by omega, by omega, q⟩
theorem rng2_at {m n : Int} (h0 : 0 ≤ m ∧ m ≤ 1000000) (hn : 0 ≤ n ∧ n ≤ 1000000) (q : Rj (Itr m (n - m).toNat) H) : IRng2At Rj [V.int m, V.int n] H := ⟨m, n, rfl, by omega, q⟩
theorem iList_at (R : Rel H L) (l : Lst K a xs L) (q : Rj (Itl K a) H) : IListAt K Rj (.ref a) H := ⟨a, rfl, ⟨_, l.sq R⟩, q⟩
theorem iEnum_at (R : Rel H L) (l : Lst K a xs L) (q : Rj (Ite K a) H) : IEnumAt K Rj [V.ref a] H := ⟨a, xs, rfl, l.sq R, q⟩
theorem iTup_at (R : Rel H L) (s : Sel (a, tupO xs) L L') (q : Rj (Itt K a) H) : ITupAt K Rj (.ref a) H := ⟨a, rfl, ⟨_, .inl (.inl (R.tup s))⟩, q⟩
theorem forJ {J : It} {n : Nat} {G : List Cell → Prop} {Y : Nat → V → List Cell → Prop} (w : WkS J n G Y) {g : TG} {tb : TS} (I : Nat → L2.St → List Cell → Prop) (R : Rel H L) (h0 : I 0 σ L)
    (hG : ∀ i σ L, i ≤ n → I i σ L → G L)
    (hs : ∀ i x cs σ H L, i < n → I i σ L → Y i x cs → Rel H (cs ++ L) → g x σ H fun σ2 H2 => tb { D with nx := InvS (I (i + 1)), ct := InvS (I (i + 1)), bk := D.nx } σ2 H2)
    (hd : ∀ σ H L, Rel H L → I n σ L → D.nx σ H) : ForJ g tb D σ J H := for_s w I R h0 hG hs hd
theorem lcJ {J : It} {n : Nat} {G : List Cell → Prop} {Y : Nat → V → List Cell → Prop} (w : WkS J n G Y) {g : TG} {tt : TT} {te : TE} {vs : List Nat} (I : Nat → List V → List Cell → Prop) (R : Rel H L) (h0 : I 0 [] L)
    (hG : ∀ i acc L D, i ≤ n → I i acc L → G ((D, raw (.lst acc)) :: L))
    (hs : ∀ i x cs acc D H L, i < n → acc.length ≤ i → I i acc L → Y i x cs → Rel H (cs ++ (D, raw (.lst acc)) :: L) → g x (wipe σ vs) H fun σ2 H2 => wipe σ2 vs = wipe σ vs ∧ tt σ2 H2 fun b H3 =>
      if b = true then te σ2 H3 fun y H4 => ∃ acc', H4 D = some (.lst acc') ∧ acc'.length < sizeLine ∧ InvC I (i + 1) D (upd H4 D (.lst (acc' ++ [y]))) else InvC I (i + 1) D H3)
    (hd : ∀ acc D H L, Rel H ((D, raw (.lst acc)) :: L) → I n acc L → Q (.ref D) H) : LcJ g tt te vs σ Q J H := lc_s w I R h0 hG hs hd
theorem go_yes {Qb : Bool → Hp → Prop} (q : Qb true H) : tYes σ H Qb := q
theorem rep_at {k : Int} (R : Rel H L) (s : Sel (a, raw (.lst xs)) L L') (h1 : 0 ≤ k) (h2 : xs.length * k.toNat ≤ 100000) (h3 : k ≤ 100000) (q : ∀ b H', Rel H' ((b, raw (.lst (List.replicate k.toNat xs).flatten)) :: L) → Q (.ref b) H') : rRep (.ref a) (.int k) H Q :=
  ⟨a, k, xs, rfl, rfl, R.at s, by omega, by omega, by rw [PySem.sizeLine_eq]; omega, fun p hp => q p _ (R.new hp)⟩
theorem cat_at {b : Addr} {ys : List V} {L2' : List Cell} (R : Rel H L) (s : Sel (a, raw (.lst xs)) L L') (s2 : Sel (b, raw (.lst ys)) L L2') (h2 : xs.length + ys.length ≤ 100000) (q : ∀ c H', Rel H' ((c, raw (.lst (xs ++ ys))) :: L) → Q (.ref c) H') : rCat (.ref a) (.ref b) H Q :=
  ⟨a, b, xs, ys, rfl, rfl, R.at s, R.at s2, by rw [PySem.sizeLine_eq]; omega, fun p hp => q p _ (R.new hp)⟩
theorem gtup_at {n : Nat} {t : TGs} {Qs : L2.St → Hp → Prop} (R : Rel H L) (s : Sel (a, tupO xs) L L') (hn : xs.length = n) (q : t xs σ H Qs) : gTup K n t (.ref a) σ H Qs := ⟨a, xs, rfl, .inl (.inl (R.tup s)), hn, q⟩
theorem gunl_at {n : Nat} {t : TGs} {Qs : L2.St → Hp → Prop} (R : Rel H L) (l : Lst K a xs L) (hn : xs.length = n) (q : t xs σ H Qs) : gUnl K n t (.ref a) σ H Qs := ⟨a, xs, rfl, l.sq R, hn, q⟩
theorem go_gcons {t : TG} {u : TGs} {Qs : L2.St → Hp → Prop} {vs : List V} (q : t v σ H fun σ' H' => u vs σ' H' Qs) : gCons t u (v :: vs) σ H Qs := ⟨v, vs, rfl, q⟩
theorem go_gnil {Qs : L2.St → Hp → Prop} (q : Qs σ H) : gNil [] σ H Qs := ⟨rfl, q⟩
def BmAt (K : PySem.W.Frag) (T : String) (r : V → List V → Hp → VK → Prop) (tar : TA) (σ : L2.St) (Q : VK) (x : V) (H1 : Hp) : Prop := tyV K T x H1 ∧ tar σ H1 fun xs H2 => r x xs H2 Q
theorem go_bm {T : String} {r : V → List V → Hp → VK → Prop} (q : te σ H (BmAt K T r tar σ Q)) : tBM K T r te tar σ H Q := q
theorem bm_lst {r : V → List V → Hp → VK → Prop} (R : Rel H L) (l : Lst K a xs L) (q : tar σ H fun ys H2 => r (.ref a) ys H2 Q) : BmAt K "list" r tar σ Q (.ref a) H := ⟨.inl ⟨rfl, _, l.sq R⟩, q⟩
theorem app_at {v : V} (R : Rel H L) (s : Sel (a, raw (.lst xs)) L L') (hl : xs.length < 1000000) (q : ∀ H', Rel H' ((a, raw (.lst (xs ++ [v]))) :: L') → Q .non H') : rAppend (.ref a) [v] H Q := ⟨a, xs, v, rfl, rfl, R.at s, by rw [PySem.sizeLine_eq]; omega, q _ (R.put s)⟩
theorem in_at {x : V} (R : Rel H L) (l : Lst K a xs L) (h1 : flatV x = true) (h2 : xs.all flatV = true) (q : Q (.bl (inV x xs)) H) : rIn K false x (.ref a) H Q := ⟨a, xs, rfl, .inl (l.sq R), h1, h2, q⟩
theorem notin_at {x : V} (R : Rel H L) (l : Lst K a xs L) (h1 : flatV x = true) (h2 : xs.all flatV = true) (q : Q (.bl (!inV x xs)) H) : rIn K true x (.ref a) H Q := ⟨a, xs, rfl, .inl (l.sq R), h1, h2, q⟩
theorem index_at {y z : V} {j : Nat} (R : Rel H L) (l : Lst K a xs L) (h1 : flatV y = true) (h2 : xs.all flatV = true) (h3 : xs[j]? = some z) (h4 : eqV z y = true) (h5 : ∀ (m : Nat) (z' : V), m < j → xs[m]? = some z' → eqV z' y = false) (q : Q (.int (j : Nat)) H) : rIndex K (.ref a) [y] H Q :=
  ⟨a, xs, y, j, z, rfl, rfl, l.sq R, h1, h2, h3, h4, h5, q⟩
theorem eqD_at {x y : V} {d e : PyData} (h1 : Dp K H x d) (h2 : Dp K H y e) (h3 : SeqAt.shaped d = true) (h4 : SeqAt.shaped e = true) (q : Q (.bl (PyData.eqv d e)) H) : rEqD K x y H Q := ⟨d, e, h1, h2, h3, h4, q⟩
theorem neD_at {x y : V} {d e : PyData} (h1 : Dp K H x d) (h2 : Dp K H y e) (h3 : SeqAt.shaped d = true) (h4 : SeqAt.shaped e = true) (q : Q (.bl (!PyData.eqv d e)) H) : rNeD K x y H Q := ⟨d, e, h1, h2, h3, h4, q⟩
def SlAt (r : V → Option Int → Option Int → Hp → VK → Prop) (tl th : TO) (σ : L2.St) (Q : VK) (x : V) (H1 : Hp) : Prop := tl σ H1 fun l H2 => th σ H2 fun u H3 => r x l u H3 Q
theorem go_slice {r : V → Option Int → Option Int → Hp → VK → Prop} {tl th : TO} (q : te σ H (SlAt r tl th σ Q)) : tSl r te tl th σ H Q := q
theorem go_noPart {Qo : Option Int → Hp → Prop} (q : Qo none H) : tNoPart σ H Qo := q
def PartAt (Qo : Option Int → Hp → Prop) (x : V) (H1 : Hp) : Prop := ∃ i, x = .int i ∧ Qo (some i) H1
theorem go_part {Qo : Option Int → Hp → Prop} (q : te σ H (PartAt Qo)) : tPart te σ H Qo := q
theorem go_partAt {Qo : Option Int → Hp → Prop} {i : Int} (q : Qo (some i) H) : PartAt Qo (.int i) H := ⟨i, rfl, q⟩
theorem go_slAt {r : V → Option Int → Option Int → Hp → VK → Prop} {tl th : TO} (q : tl σ H fun l H2 => th σ H2 fun u H3 => r x l u H3 Q) : SlAt r tl th σ Q x H := q
theorem slL_at {lo hi : Option Int} (R : Rel H L) (l : Lst K a xs L) (q : ∀ b H', Rel H' ((b, raw (.lst (cutV xs lo hi))) :: L) → Q (.ref b) H') : rSlL K (.ref a) lo hi H Q := ⟨a, xs, rfl, l.sq R, fun p hp => q p _ (R.new hp)⟩
/-! comprehensions that keep some of the turns -/
def InvF (f : Nat → Option V) (L : List Cell) : Nat → List V → List Cell → Prop := fun i acc L' => acc = (List.range i).filterMap f ∧ L' = L
theorem flt_len (f : Nat → Option V) (i : Nat) : ((List.range i).filterMap f).length ≤ i := Nat.le_trans (List.length_filterMap_le _ _) (by simp)
theorem flt_put {f : Nat → Option V} {i : Nat} {b : Addr} {acc : List V} {y : V} {M M' : List Cell} (hf : f i = some y) (hi : i < 100000) (ha : acc = (List.range i).filterMap f) (R : Rel H M) (s : Sel (b, raw (.lst acc)) M M') (d : Drops M' L) :
    ∃ acc', H b = some (.lst acc') ∧ acc'.length < sizeLine ∧ InvC (InvF f L) (i + 1) b (upd H b (.lst (acc' ++ [y]))) := by
  subst ha
  refine lc_put (Rel.drops (A := [_]) d (R.sel s)) .here (flt_len f i) hi ⟨?_, rfl⟩
  rw [List.range_succ, List.filterMap_append]
  simp [hf]
theorem flt_not {f : Nat → Option V} {i : Nat} {b : Addr} {acc : List V} {M M' : List Cell} (hf : f i = none) (ha : acc = (List.range i).filterMap f) (R : Rel H M) (s : Sel (b, raw (.lst acc)) M M') (d : Drops M' L) : InvC (InvF f L) (i + 1) b H := by
  subst ha
  refine lc_not (Rel.drops (A := [_]) d (R.sel s)) .here (flt_len f i) ⟨?_, rfl⟩
  rw [List.range_succ, List.filterMap_append]
  simp [hf]
theorem lcF {J : It} {n : Nat} {G : List Cell → Prop} {Y : Nat → V → List Cell → Prop} (w : WkS J n G Y) {g : TG} {tt : TT} {te : TE} {vs : List Nat} (f : Nat → Option V) (R : Rel H L)
    (hG : ∀ acc D, G ((D, raw (.lst acc)) :: L))
    (hs : ∀ i x cs acc D H, i < n → acc = (List.range i).filterMap f → Y i x cs → Rel H (cs ++ (D, raw (.lst acc)) :: L) → g x (wipe σ vs) H fun σ2 H2 => wipe σ2 vs = wipe σ vs ∧ tt σ2 H2 fun b H3 =>
      if b = true then te σ2 H3 fun y H4 => ∃ acc', H4 D = some (.lst acc') ∧ acc'.length < sizeLine ∧ InvC (InvF f L) (i + 1) D (upd H4 D (.lst (acc' ++ [y]))) else InvC (InvF f L) (i + 1) D H3)
    (hd : ∀ D H, Rel H ((D, raw (.lst ((List.range n).filterMap f))) :: L) → Q (.ref D) H) : LcJ g tt te vs σ Q J H :=
  lcJ w (InvF f L) R ⟨rfl, rfl⟩ (fun i acc L' D _ h => by rw [h.2]; exact hG acc D) (fun i x cs acc D H L' hi _ h hy R' => by
    obtain ⟨h1, rfl⟩ := h
    exact hs i x cs acc D H hi h1 hy R') fun acc D H L' R' h => by
    obtain ⟨h1, rfl⟩ := h
    subst h1
    exact hd D H R'
theorem go_inv {I : L2.St → List Cell → Prop} (q : InvS I σ H) : InvS I σ H := q
/-! while -/
def InvLt (I : Nat → L2.St → List Cell → Prop) (m : Nat) : L2.St → Hp → Prop := fun σ H => ∃ m', m' < m ∧ ∃ L, Rel H L ∧ I m' σ L
theorem inv_lt {I : Nat → L2.St → List Cell → Prop} {m : Nat} {cs F M M' : List Cell} (m' : Nat) (hm : m' < m) (h : I m' σ (cs ++ F)) (R : Rel H M) (s : Sels cs M M') (d : Drops M' F) : InvLt I m σ H := ⟨m', hm, _, R.fin s d, h⟩
theorem go_invLt {I : Nat → L2.St → List Cell → Prop} {m : Nat} (q : InvLt I m σ H) : InvLt I m σ H := q
def WhlGo (tb : TS) (D : Ends) (I : Nat → L2.St → List Cell → Prop) (m : Nat) (σ : L2.St) (H1 : Hp) : Prop := tb { D with nx := InvLt I m, ct := InvLt I m, bk := D.nx } σ H1
theorem go_whl {tb : TS} {I : Nat → L2.St → List Cell → Prop} {m : Nat} (q : tb { D with nx := InvLt I m, ct := InvLt I m, bk := D.nx } σ H) : WhlGo tb D I m σ H := q
theorem while_s {c : TT} {tb : TS} (I : Nat → L2.St → List Cell → Prop) (m0 : Nat) (R : Rel H L) (h0 : I m0 σ L)
    (hs : ∀ m σ H L, Rel H L → I m σ L → c σ H fun b H1 => if b = true then ∃ N : L2.St → Hp → Prop, (∀ σ' H', N σ' H' → ∃ m', m' < m ∧ ∃ L, Rel H' L ∧ I m' σ' L) ∧ tb { D with nx := N, ct := N, bk := D.nx } σ H1 else D.nx σ H1) : tWhile c tb D σ H :=
  ⟨fun m σ H => ∃ L, Rel H L ∧ I m σ L, ⟨m0, L, R, h0⟩, fun m σ H ⟨L, R, h⟩ => hs m σ H L R h⟩
theorem whl_yes {tb : TS} {I : Nat → L2.St → List Cell → Prop} {m : Nat} (q : tb { D with nx := InvLt I m, ct := InvLt I m, bk := D.nx } σ H) :
    ∃ N : L2.St → Hp → Prop, (∀ σ' H', N σ' H' → ∃ m', m' < m ∧ ∃ L, Rel H' L ∧ I m' σ' L) ∧ tb { D with nx := N, ct := N, bk := D.nx } σ H := ⟨InvLt I m, fun _ _ h => h, q⟩
/-! dicts -/
def DGetAt (Q : VK) (x y : V) (H2 : Hp) : Prop := ∃ a v, x = .ref a ∧ DGet H2 a y (some v) ∧ Q v H2
theorem go_dget {td ty : TE} (q : td σ H fun x H1 => ty σ H1 (DGetAt Q x)) : tDGet td ty σ H Q := q
theorem dget_at {kvs : List (Key × V)} (k : Key) (R : Rel H L) (s : Sel (a, raw (.dK kvs)) L L') (hy : y = kV k) (hv : valV kvs k = some v) (q : Q v H) : DGetAt Q (.ref a) y H := ⟨a, v, rfl, .inl ⟨kvs, k, .inl (R.at s), hy, hv.symm⟩, q⟩
def DAugAt (tv : TE) (rd : V → V → Hp → VK → Prop) (D : Ends) (σ : L2.St) (x y : V) (H2 : Hp) : Prop := ∃ a v, x = .ref a ∧ DGet H2 a y (some v) ∧ tv σ H2 fun y2 H3 => rd v y2 H3 fun z H4 => ∃ H5, DPut H4 a y z H5 ∧ D.nx σ H5
theorem go_daug {td ty tv : TE} {rd : V → V → Hp → VK → Prop} (q : td σ H fun x H1 => ty σ H1 (DAugAt tv rd D σ x)) : sDAug td ty tv rd D σ H := q
theorem daug_at {kvs ks : List (Key × V)} {m n : Int} (k : Key) (R : Rel H L) (s : Sel (a, raw (.dK kvs)) L L') (hy : y = kV k) (hv : valV kvs k = some (.int m)) (hl : kvs.length < 1000000) (hp : putK kvs k (.int (m + n)) = ks) (q : ∀ H', Rel H' ((a, raw (.dK ks)) :: L') → D.nx σ H') :
    DAugAt (tC (.int n)) rAdd D σ (.ref a) y H :=
  ⟨a, _, rfl, .inl ⟨kvs, k, .inl (R.at s), hy, hv.symm⟩, m, n, rfl, rfl, _, .inl ⟨kvs, k, R.at s, hy, by rw [PySem.sizeLine_eq]; omega, rfl⟩, q _ (by rw [hp]; exact R.put s)⟩
def DPutAt (D : Ends) (σ : L2.St) (v x y : V) (H3 : Hp) : Prop := ∃ a H4, x = .ref a ∧ DPut H3 a y v H4 ∧ D.nx σ H4
theorem go_dput {td ty tv : TE} (q : tv σ H fun v H1 => td σ H1 fun x H2 => ty σ H2 (DPutAt D σ v x)) : sDPut td ty tv D σ H := q
theorem dput_at {kvs ks : List (Key × V)} (k : Key) (R : Rel H L) (s : Sel (a, raw (.dK kvs)) L L') (hy : y = kV k) (hl : kvs.length < 1000000) (hp : putK kvs k v = ks) (q : ∀ H', Rel H' ((a, raw (.dK ks)) :: L') → D.nx σ H') : DPutAt D σ v (.ref a) y H :=
  ⟨a, _, rfl, .inl ⟨kvs, k, R.at s, hy, by rw [PySem.sizeLine_eq]; omega, rfl⟩, q _ (by rw [hp]; exact R.put s)⟩
theorem go_dnewK (R : Rel H L) (q : ∀ b H', Rel H' ((b, raw (.dK [])) :: L) → Q (.ref b) H') : tDNewK σ H Q := fun p hp => q p _ (R.new hp)
def DispAt (Q : VK) (p : Addr) (ps : List (V × V)) (H2 : Hp) : Prop := H2 p = some (.dK []) ∧ ∃ kvs : List (Key × V), ps = kvs.map (fun kv => (kV kv.1, kv.2)) ∧ kvs.length ≤ 15 ∧ Q (.ref p) (upd H2 p (.dK (mergeK [] kvs)))
theorem go_disp {trs : List (TE × TE)} (R : Rel H L) (q : ∀ p H1, Rel H1 ((p, raw (.dK [])) :: L) → tPairs trs σ H1 (DispAt Q p)) : tDisp trs σ H Q := fun p hp => q p _ (R.new hp)
theorem go_pnil {Qp : List (V × V) → Hp → Prop} (q : Qp [] H) : tPairs [] σ H Qp := q
theorem go_pcons {Qp : List (V × V) → Hp → Prop} {tk tv : TE} {r : List (TE × TE)} (q : tk σ H fun x H1 => tv σ H1 fun y H2 => tPairs r σ H2 fun ps H3 => Qp ((x, y) :: ps) H3) : tPairs ((tk, tv) :: r) σ H Qp := q
theorem disp_at {p : Addr} {ps : List (V × V)} {ks : List (Key × V)} (kvs : List (Key × V)) (R : Rel H L) (s : Sel (p, raw (.dK [])) L L') (h : ps = kvs.map (fun kv => (kV kv.1, kv.2))) (hl : kvs.length ≤ 15) (hm : mergeK [] kvs = ks) (q : ∀ H', Rel H' ((p, raw (.dK ks)) :: L') → Q (.ref p) H') : DispAt Q p ps H :=
  ⟨R.at s, kvs, h, hl, q _ (by rw [hm]; exact R.put s)⟩
end
end Wn
namespace Wn
open PySem L2
local macro_rules | `(tactic| walk_at "sel") => `(tactic| repeat (first | exact Sel.here | apply Sel.there))
local macro_rules | `(tactic| walk_at "lst") => `(tactic| first | (apply Lst.raw; walk_at "sel"; done) | (apply Lst.seq; walk_at "sel"; done))
local macro_rules | `(tactic| walk_at "sels") => `(tactic| first | exact Sels.nil | exact Sels.cons (by walk_at "sel") (by walk_at "sels"))
local macro_rules | `(tactic| walk_at "drops") => `(tactic| repeat (first | exact Drops.refl | apply Drops.skip))
local macro_rules | `(tactic| walk_at "inv") => `(tactic| first | (with_reducible refine go_inv ?_) | (with_reducible refine go_invLt ?_))
local macro_rules | `(tactic| walk_at "g1") => `(tactic| with_reducible first
  | refine go_seq ?_
  | refine go_asg ?_
  | refine go_name ?_
  | refine go_op ?_
  | refine go_c ?_
  | refine go_cons ?_
  | refine go_nil ?_
  | refine go_I0 ?_
  | refine go_ifS ?_
  | refine go_test ?_
  | refine go_bl ?_
  | refine go_B ?_
  | refine go_ret ?_
  | refine go_next ?_
  | refine go_drop ?_
  | refine go_call ?_
  | refine go_meth ?_
  | refine go_make ?_
  | refine go_fld ?_
  | refine go_CB ?_
  | refine go_chain ?_
  | refine go_chainT ?_
  | refine go_and ?_
  | refine go_or ?_
  | refine go_not ?_
  | refine go_andV ?_
  | refine go_orV ?_
  | refine go_notV ?_
  | refine go_tup ?_
  | refine go_lst ?_
  | refine go_U ?_
  | refine go_un ?_
  | refine go_ifE ?_
  | refine go_retN ?_
  | refine go_rIsN ?_
  | refine go_rNotN ?_
  | refine go_ipI ?_
  | refine go_brk ?_
  | refine go_cont ?_
  | refine go_sfld ?_
  | refine go_pnil ?_
  | refine go_pcons ?_
  | refine go_dget ?_
  | refine go_daug ?_
  | refine go_dput ?_
  | refine go_aug rfl ?_
  | refine go_gcons ?_
  | refine go_gnil ?_
  | refine go_bm ?_
  | refine go_slice ?_
  | refine go_noPart ?_
  | refine go_part ?_
  | refine go_partAt ?_
  | refine go_slAt ?_
  | refine go_sub ?_
  | refine go_augS ?_
  | refine go_for ?_
  | refine go_lc ?_
  | refine go_iList ?_
  | refine go_iTup ?_
  | refine go_iEnum ?_
  | refine go_iRng1 ?_
  | refine go_iRng2 ?_
  | refine go_yes ?_
  | refine ite_t rfl ?_)
local macro_rules | `(tactic| walk_at "gf") => `(tactic| fail)
local macro_rules | `(tactic| walk_at "gr") => `(tactic| first
  | ((with_reducible refine' go_len ?R ?l ?_); (case R => assumption); (case l => walk_at "lst"))
  | ((with_reducible refine' go_aug ?h ?_); (case h => exact rfl))
  | ((with_reducible refine' gtup_at ?R ?s ?hn ?_); (case R => assumption); (case s => (walk_at "sel"; done)); (case hn => rfl))
  | ((with_reducible refine' bm_lst ?R ?l ?_); (case R => assumption); (case l => walk_at "lst"))
  | ((with_reducible refine' iList_at ?R ?l ?_); (case R => assumption); (case l => walk_at "lst"))
  | ((with_reducible refine' iTup_at ?R ?s ?_); (case R => assumption); (case s => (walk_at "sel"; done)))
  | ((with_reducible refine' iEnum_at ?R ?l ?_); (case R => assumption); (case l => walk_at "lst")))
local macro_rules | `(tactic| walk_at "g") => `(tactic| repeat (first | walk_at "g1" | walk_at "gr" | walk_at "gf" | ((with_reducible refine' go_var ?gv ?_); (case gv => exact rfl))))
/-! ### whole numbers -/
def wholeV : V → Bool
  | .int _ => true
  | _ => false
def withinV (x : V) (lo hi : Int) : Bool := match x with
  | .int i => decide (lo ≤ i) && decide (i ≤ hi)
  | _ => false
def sp_is_whole (K : PySem.W.Frag) : Sp := SpS fun vs pre k => ∃ x, vs = [x] ∧ pre = [] ∧ flatV x = true ∧ k (.bl (wholeV x)) []
def sp_is_within (K : PySem.W.Frag) : Sp := SpS fun vs pre k => ∃ x lo hi, vs = [x, .int lo, .int hi] ∧ pre = [] ∧ flatV x = true ∧ k (.bl (withinV x lo hi)) []
def t_is_whole (K : PySem.W.Frag) : TS := tRet (tAndV (tCB (rIsi K) (tCons (tVar 0) (tCons (tC (.ty "int")) (tNil)))) (tNotV (tCB (rIsi K) (tCons (tVar 0) (tCons (tC (.ty "bool")) (tNil))))))
def t_is_within (K : PySem.W.Frag) : TS := tRet (tAndV (tCall (sp_is_whole K) [] E0 (tCons (tVar 0) (tNil))) (tChain rLeI rLeI (tVar 1) (tVar 0) (tVar 2)))
theorem go_isi {K : PySem.W.Frag} {H : Hp} {Q : VK} {x : V} {T : String} {t : String} {b : Bool} (ht : TyX K H x (.type t)) (hk : kitB t T = some b) (q : Q (.bl b) H) : rIsi K [x, .ty T] H Q := ⟨x, .ty T, .type t, .type T, b, rfl, .ty T, ht, kit_ty hk, q⟩
theorem pure_is_whole {K : PySem.W.Frag} {vs : List V} {H : Hp} {Q : VK} {E : XK} (h : sp_is_whole K vs H Q E) : t_is_whole K { nx := fun _ H' => Q .non H', rt := Q } (start ["thing"] vs) H := by
  obtain ⟨pre, F, R, x, rfl, rfl, hx, k⟩ := h.use
  unfold t_is_whole
  walk_at "g"
  cases x with
  | int i =>
    refine go_isi (t := "int") (b := true) (.base (.int _)) (by decide +kernel) ?_
    walk_at "g"
    refine go_isi (t := "int") (b := false) (.base (.int _)) (by decide +kernel) ?_
    walk_at "g"
    exact k _ R
  | bl i =>
    refine go_isi (t := "bool") (b := true) (.base (.bl _)) (by decide +kernel) ?_
    walk_at "g"
    refine go_isi (t := "bool") (b := true) (.base (.bl _)) (by decide +kernel) ?_
    walk_at "g"
    exact k _ R
  | non =>
    refine go_isi (t := "NoneType") (b := false) (.base .non) (by decide +kernel) ?_
    walk_at "g"
    exact k _ R
  | str z =>
    refine go_isi (t := "str") (b := false) (.base (.str _)) (by decide +kernel) ?_
    walk_at "g"
    exact k _ R
  | _ => cases hx
theorem pure_is_within {K : PySem.W.Frag} {vs : List V} {H : Hp} {Q : VK} {E : XK} (h : sp_is_within K vs H Q E) : t_is_within K { nx := fun _ H' => Q .non H', rt := Q } (start ["thing", "low", "high"] vs) H := by
  obtain ⟨pre, F, R, x, lo, hi, rfl, rfl, hx, k⟩ := h.use
  unfold t_is_within
  walk_at "g"
  refine SpS.call R .nil ⟨_, rfl, rfl, hx, fun H1 R1 => ?_⟩
  walk_at "g"
  refine ite_b (fun e => ?_) fun e => ?_
  · cases x with
    | int i =>
      walk_at "g"
      refine ite_d (fun h1 => ?_) fun h1 => ?_
      · walk_at "g"
        have e2 : withinV (.int i) lo hi = decide (i ≤ hi) := by simp [withinV, h1]
        rw [e2] at k
        exact k _ R1
      · have e2 : withinV (.int i) lo hi = false := by simp [withinV, h1]
        rw [e2] at k
        exact k _ R1
    | _ => cases e
  · have e2 : withinV x lo hi = false := by cases x <;> first | rfl | cases e
    rw [e2] at k
    exact k _ R1
/-! ### lists of objects, as cells -/
theorem Sel.mid {c : Cell} : ∀ {A B : List Cell}, Sel c (A ++ c :: B) (A ++ B)
  | [], _ => .here
  | _ :: _, _ => .there Sel.mid
theorem Rel.front {H : Hp} {c : Cell} {A B : List Cell} (R : Rel H (A ++ c :: B)) : Rel H (c :: (A ++ B)) := R.sel Sel.mid
theorem Rel.swapL {H : Hp} {A B C : List Cell} (R : Rel H (A ++ (B ++ C))) : Rel H (B ++ (A ++ C)) := by
  obtain ⟨fps, r, nd⟩ := R
  obtain ⟨x, y, rfl, h1, h2⟩ := paired_split r
  obtain ⟨y1, y2, rfl, h3, h4⟩ := paired_split h2
  refine ⟨y1 ++ (x ++ y2), paired_app h3 (paired_app h1 h4), (List.Perm.nodup_iff ?_).mpr nd⟩
  simp only [List.flatten_append, ← List.append_assoc]
  exact List.Perm.append_right _ List.perm_append_comm
/-- the cells taken out, in this order, and no others -/
theorem Rel.pick {cs : List Cell} {H : Hp} {L L' : List Cell} (R : Rel H L) (s : Sels cs L L') : Rel H (cs ++ L') := R.sels s
theorem Rel.asSeq {K : PySem.W.Frag} {H : Hp} {a : Addr} {xs : List V} {L : List Cell} (R : Rel H ((a, raw (.lst xs)) :: L)) : Rel H ((a, seqO K xs) :: L) := by
  obtain ⟨fps, r, nd⟩ := R
  cases r with
  | cons r t => exact ⟨_, .cons (.inl ⟨r.1, r.2⟩) t, nd⟩
theorem set_self {α : Type} : ∀ {xs : List α} {i : Nat} {x : α}, xs[i]? = some x → xs.set i x = xs
  | [], _, _, h => by simp at h
  | y :: ys, 0, x, h => by simp at h; simp [h]
  | y :: ys, i + 1, x, h => by simp at h; simp [set_self h]
theorem Sel.appR {c : Cell} {B B' : List Cell} : ∀ {A : List Cell}, Sel c B B' → Sel c (A ++ B) (A ++ B')
  | [], s => s
  | _ :: _, s => .there (Sel.appR s)
/-- many cells as one -/
def blk (A : List Cell) : Cell := (0, exO (X := Unit) (fun _ _ => A) (fun _ _ => True))
theorem blk_open {H : Hp} {A L : List Cell} (R : Rel H (blk A :: L)) : Rel H (A ++ L) := by
  obtain ⟨_, _, r⟩ := R.open_
  exact r
theorem blk_close {H : Hp} {A L : List Cell} (R : Rel H (A ++ L)) : Rel H (blk A :: L) := Rel.close_ (x := ()) trivial R
def lcells {α : Type} (f : α → BO) (ss : List Addr) (xs : List α) : List Cell := List.zipWith (fun a x => (a, f x)) ss xs
theorem lcells_at {α : Type} {f : α → BO} : ∀ {ss : List Addr} {xs : List α} {i : Nat} {a : Addr} {x : α}, ss[i]? = some a → xs[i]? = some x → ∃ A B, lcells f ss xs = A ++ (a, f x) :: B ∧ ∀ y, lcells f ss (xs.set i y) = A ++ (a, f y) :: B
  | [], _, _, _, _, h, _ => by simp at h
  | _ :: _, [], _, _, _, _, h => by simp at h
  | s :: ss, x :: xs, 0, a, y, h1, h2 => by
    simp at h1 h2; subst h1 h2
    exact ⟨[], lcells f ss xs, rfl, fun _ => rfl⟩
  | s :: ss, x :: xs, i + 1, a, y, h1, h2 => by
    obtain ⟨A, B, e1, e2⟩ := lcells_at (f := f) (ss := ss) (xs := xs) (i := i) (by simpa using h1) (by simpa using h2)
    exact ⟨(s, f x) :: A, B, by show (s, f x) :: lcells f ss xs = _; rw [e1]; rfl, fun y => by show (s, f x) :: lcells f ss (xs.set i y) = _; rw [e2]; rfl⟩
theorem lcells_snoc {α : Type} {f : α → BO} : ∀ {ss : List Addr} {xs : List α} {a : Addr} {x : α}, ss.length = xs.length → lcells f (ss ++ [a]) (xs ++ [x]) = lcells f ss xs ++ [(a, f x)]
  | [], [], a, x, _ => rfl
  | s :: ss, y :: xs, a, x, h => by
    show (s, f y) :: lcells f (ss ++ [a]) (xs ++ [x]) = _
    rw [lcells_snoc (by simpa using h)]; rfl
abbrev lblk {α : Type} (f : α → BO) (ss : List Addr) (xs : List α) : Cell := blk (lcells f ss xs)
theorem lblk_nil {α : Type} {f : α → BO} {H : Hp} {L : List Cell} (R : Rel H L) : Rel H (lblk f [] [] :: L) := blk_close R
theorem lblk_snoc {α : Type} {f : α → BO} {H : Hp} {ss : List Addr} {xs : List α} {a : Addr} {x : α} {L L1 L2 : List Cell} (R : Rel H L) (s1 : Sel (lblk f ss xs) L L1) (s2 : Sel (a, f x) L1 L2) (h : ss.length = xs.length) : Rel H (lblk f (ss ++ [a]) (xs ++ [x]) :: L2) := by
  have R1 := (R.sel s1).sel (.there s2)
  have R2 : Rel H (lblk f ss xs :: (a, f x) :: L2) := R1.sel (.there .here)
  refine blk_close ?_
  rw [lcells_snoc h, List.append_assoc]
  exact blk_open R2
/-- the i-th of them taken out, and a way back -/
theorem lblk_at {α : Type} {f : α → BO} {H : Hp} {ss : List Addr} {xs : List α} {i : Nat} {a : Addr} {x : α} {L L' : List Cell} (R : Rel H L) (s : Sel (lblk f ss xs) L L') (h1 : ss[i]? = some a) (h2 : xs[i]? = some x) :
    ∃ A, Rel H ((a, f x) :: blk A :: L') ∧ ∀ H' M M1 M2 y, Rel H' M → Sel (a, f y) M M1 → Sel (blk A) M1 M2 → Rel H' (lblk f ss (xs.set i y) :: M2) := by
  obtain ⟨A, B, e1, e2⟩ := lcells_at (f := f) h1 h2
  have R1 := blk_open (R.sel s)
  rw [e1, List.append_assoc] at R1
  have R2 : Rel H ((a, f x) :: ((A ++ B) ++ L')) := by rw [List.append_assoc]; exact R1.front
  refine ⟨A ++ B, (blk_close (Rel.toFront R2) : Rel H (blk (A ++ B) :: (a, f x) :: L')).sel (.there .here), fun H' M M1 M2 y R' s1 s2 => ?_⟩
  have R2 := (R'.sel s1).sel (.there s2)
  have R3 := blk_open R2
  refine blk_close ?_
  rw [e2, List.append_assoc]
  rw [List.append_assoc] at R3
  exact Rel.toFront (R3.sel (c := (a, f y)) (Sel.appR (Sel.appR .here)))
/-- a list of such objects -/
def lsO {α : Type} (f : α → BO) (xs : List α) : BO := exO (X := List Addr) (fun ss a => [(a, raw (.lst (ss.map V.ref))), lblk f ss xs]) (fun ss _ => ss.length = xs.length)
/-- a list of tuples -/
abbrev tpsO (xs : List (List V)) : BO := lsO tupO xs
theorem ls_open {α : Type} {f : α → BO} {xs : List α} {H : Hp} {a : Addr} {L L' : List Cell} (R : Rel H L) (s : Sel (a, lsO f xs) L L') : ∃ ss : List Addr, ss.length = xs.length ∧ Rel H ((a, raw (.lst (ss.map V.ref))) :: lblk f ss xs :: L') := by
  obtain ⟨ss, h, r⟩ := (R.sel s).open_
  exact ⟨ss, h, r⟩
theorem ls_close {α : Type} {f : α → BO} {xs : List α} {H : Hp} {a : Addr} {ss : List Addr} {L L1 L2 : List Cell} (h : ss.length = xs.length) (R : Rel H L) (s1 : Sel (a, raw (.lst (ss.map V.ref))) L L1) (s2 : Sel (lblk f ss xs) L1 L2) : Rel H ((a, lsO f xs) :: L2) :=
  Rel.close_ (x := ss) h (((R.sel s1).sel (.there s2)).sel (.there .here))

/-! ### a bench -/
structure BenchM where
  pages : Int
  stacks : List (List (Option Int))
  times : List Int
def optV : Option Int → V
  | none => .non
  | some i => .int i
abbrev cBench (K : PySem.W.Frag) : Addr := He.ga K "Bench"
def benchF (aS aT : Addr) (p : Int) : List (Str × V) := [("pages", .int p), ("stacks", .ref aS), ("times", .ref aT)]
structure BX where
  dx : Addr
  aS : Addr
  aT : Addr
  ss : List Addr
def stO (st : List (Option Int)) : BO := raw (.lst (st.map optV))
abbrev benchC (K : PySem.W.Frag) (b : BenchM) (p dx aS aT : Addr) (ss : List Addr) : List Cell := [(p, raw (.ins (cBench K) dx (benchF aS aT b.pages))), (aS, raw (.lst (ss.map V.ref))), (aT, raw (.lst (b.times.map V.int))), lblk stO ss b.stacks]
def benchO (K : PySem.W.Frag) (b : BenchM) : BO := exO (X := BX) (fun x p => benchC K b p x.dx x.aS x.aT x.ss) (fun x _ => x.ss.length = b.stacks.length)
theorem bench_open {K : PySem.W.Frag} {b : BenchM} {H : Hp} {p : Addr} {L L' : List Cell} (R : Rel H L) (s : Sel (p, benchO K b) L L') : ∃ dx aS aT ss, ss.length = b.stacks.length ∧ Rel H (benchC K b p dx aS aT ss ++ L') := by
  obtain ⟨x, q, r⟩ := (R.sel s).open_
  exact ⟨x.dx, x.aS, x.aT, x.ss, q, r⟩
theorem bench_close {K : PySem.W.Frag} {b : BenchM} {H : Hp} {p dx aS aT : Addr} {ss : List Addr} {L L' : List Cell} (h : ss.length = b.stacks.length) (R : Rel H L) (s : Sels (benchC K b p dx aS aT ss) L L') : Rel H ((p, benchO K b) :: L') :=
  Rel.close_ (x := ⟨dx, aS, aT, ss⟩) h (R.sels s)
abbrev TBench (K : PySem.W.Frag) : Prop := ClsF K (cBench K) ["pages", "stacks", "times"]
section
variable {K : PySem.W.Frag} {H : Hp} {Q : VK} {L L' : List Cell} {p dx aS aT : Addr} {n : Int} (T : TBench K) (R : Rel H L) (s : Sel (p, raw (.ins (cBench K) dx (benchF aS aT n))) L L')
include T R s
theorem fldB_stacks (q : Q (.ref aS) H) : FldAt K "stacks" Q (.ref p) H := fld_at T R s (by decide +kernel) (by kernel_rfl) q
theorem fldB_pages (q : Q (.int n) H) : FldAt K "pages" Q (.ref p) H := fld_at T R s (by decide +kernel) (by kernel_rfl) q
theorem fldB_times (q : Q (.ref aT) H) : FldAt K "times" Q (.ref p) H := fld_at T R s (by decide +kernel) (by kernel_rfl) q
end
/-- pairs in order -/
def insP (x : Int × Int) : List (Int × Int) → List (Int × Int)
  | [] => [x]
  | y :: l => if SrtO.lexB y x = true then y :: insP x l else x :: y :: l
def srtP : List (Int × Int) → List (Int × Int)
  | [] => []
  | x :: l => insP x (srtP l)
namespace BenchM
def ok (b : BenchM) : Prop := 1 ≤ b.pages ∧ b.pages ≤ 100 ∧ b.times.length = b.stacks.length ∧ b.stacks.length ≤ 100 ∧ ∀ st ∈ b.stacks, (st.length : Int) ≤ b.pages
def new (blocks : Nat) (pages : Int) : BenchM := ⟨pages, List.replicate blocks [], List.replicate blocks 0⟩
def emptyPairs (b : BenchM) : List (Int × Int) := ((List.range b.stacks.length).filter fun k => (b.stacks.getD k []).isEmpty).map fun k => (b.times.getD k 0, (k : Int))
def emptyOnes (b : BenchM) : List Int := (srtP b.emptyPairs).map (·.2)
def partly (b : BenchM) (k : Nat) : Bool := decide (0 < (b.stacks.getD k []).length) && decide (((b.stacks.getD k []).length : Int) < b.pages)
def begun (b : BenchM) : Option Nat := (List.range b.stacks.length).find? b.partly
def isReady (b : BenchM) : Bool := decide (1 < b.emptyOnes.length) || (decide (b.emptyOnes.length = 1) && b.begun.isSome)
def kill (s : Int) (st : List (Option Int)) : List (Option Int) := if some s ∈ st then st.set (st.idxOf (some s)) none else st
def killed (b : BenchM) (s : Int) : BenchM := { b with stacks := b.stacks.map (kill s) }
def spot (b : BenchM) : Option Nat := match b.begun with
  | some k => some k
  | none => match b.emptyOnes with
    | [] => none
    | k :: _ => some k.toNat
def layDown (b : BenchM) (s : Int) : Option BenchM := ((b.killed s).spot).map fun k => { b.killed s with stacks := (b.killed s).stacks.set k ((b.killed s).stacks.getD k [] ++ [some s]) }
def full (b : BenchM) (k : Nat) : Bool := decide (((b.stacks.getD k []).length : Int) = b.pages) && decide (none ∈ b.stacks.getD k [])
def choices (b : BenchM) : List Nat := (List.range b.stacks.length).filter b.full
def layAll : List Int → BenchM → Option BenchM
  | [], b => some b
  | s :: r, b => (b.layDown s).bind (layAll r)
def moved (b : BenchM) (k : Nat) : List Int := (b.stacks.getD k []).filterMap id
def clearOut (b : BenchM) (k : Nat) : Option BenchM := (layAll (b.moved k) b).map fun b1 => { b1 with stacks := b1.stacks.set k [], times := b1.times.set k (b1.times.getD k 0 + 1) }
/-- as far as it goes without room made -/
def run : List Int → BenchM → Option (List Int × BenchM)
  | [], b => some ([], b)
  | s :: r, b => if b.isReady = true then (b.layDown s).bind (run r) else some (s :: r, b)
def better (best : Option (Int × List Int)) (m : Int) (cs : List Int) : Option (Int × List Int) := match best with
  | none => some (m, cs)
  | some (m0, cs0) => if m < m0 then some (m, cs) else some (m0, cs0)
/-- the best of the choices ks, the best so far being `best` -/
def bestOf (rec : BenchM → List Int → Option (Int × List Int)) (b : BenchM) (row : List Int) : List Nat → Option (Int × List Int) → Option (Option (Int × List Int))
  | [], best => some best
  | k :: ks, best => (b.clearOut k).bind fun b1 => (rec b1 row).bind fun r => bestOf rec b row ks (better best ((b.moved k).length + r.1) ((k : Int) :: r.2))
/-- none: it would stop somewhere -/
def least : Nat → BenchM → List Int → Option (Int × List Int)
  | 0, _, _ => none
  | n + 1, b, row => (run row b).bind fun p => match p.1 with
    | [] => some (0, [])
    | s :: r => (bestOf (least n) p.2 (s :: r) p.2.choices none).bind fun x => x
end BenchM
namespace BenchM
theorem begun_some {b : BenchM} {i : Nat} (hj : ∀ j, j < i → b.partly j = false) (h : b.partly i = true) (hi : i < b.stacks.length) : b.begun = some i := by
  unfold begun
  rw [List.find?_range_eq_some]
  exact ⟨h, by simpa using hi, fun j hji => by simp [hj j hji]⟩
theorem begun_none {b : BenchM} (hj : ∀ j, j < b.stacks.length → b.partly j = false) : b.begun = none := by
  unfold begun
  rw [List.find?_eq_none]
  intro x hx
  simp [hj x (by simpa using hx)]
theorem getD_of {α : Type} {xs : List α} {i : Nat} {x d : α} (h : xs[i]? = some x) : xs.getD i d = x := by simp [h]
end BenchM
def spot_ (b : BenchM) : Option Nat := b.spot
/-! ### the promises -/
def sp_Bench___init__ (K : PySem.W.Frag) : Sp := SpS fun vs pre k => ∃ (p dx : Addr) (n : Nat) (pages : Int), vs = [.ref p, .int n, .int pages] ∧ pre = [(p, raw (.ins (cBench K) dx []))] ∧ n ≤ 100 ∧ k .non [(p, benchO K (.new n pages))]
def sp_Bench_copied (K : PySem.W.Frag) : Sp := SpS fun vs pre k => ∃ (p : Addr) (b : BenchM), vs = [.ref p] ∧ pre = [(p, benchO K b)] ∧ b.ok ∧ ∀ q, k (.ref q) [(q, benchO K b), (p, benchO K b)]
def sp_Bench_empty_ones (K : PySem.W.Frag) : Sp := SpS fun vs pre k => ∃ (p : Addr) (b : BenchM), vs = [.ref p] ∧ pre = [(p, benchO K b)] ∧ b.ok ∧ ∀ q, k (.ref q) [(q, raw (.lst (b.emptyOnes.map V.int))), (p, benchO K b)]
def sp_Bench_begun (K : PySem.W.Frag) : Sp := SpS fun vs pre k => ∃ (p : Addr) (b : BenchM), vs = [.ref p] ∧ pre = [(p, benchO K b)] ∧ b.ok ∧ k (optV (b.begun.map fun (k : Nat) => (k : Int))) [(p, benchO K b)]
def sp_Bench_is_ready (K : PySem.W.Frag) : Sp := SpS fun vs pre k => ∃ (p : Addr) (b : BenchM), vs = [.ref p] ∧ pre = [(p, benchO K b)] ∧ b.ok ∧ k (.bl b.isReady) [(p, benchO K b)]
def sp_Bench_lay_down (K : PySem.W.Frag) : Sp := SpS fun vs pre k => ∃ (p : Addr) (b b' : BenchM) (s : Int), vs = [.ref p, .int s] ∧ pre = [(p, benchO K b)] ∧ b.ok ∧ b.layDown s = some b' ∧ k .non [(p, benchO K b')]
def sp_Bench_choices (K : PySem.W.Frag) : Sp := SpS fun vs pre k => ∃ (p : Addr) (b : BenchM), vs = [.ref p] ∧ pre = [(p, benchO K b)] ∧ b.ok ∧ ∀ q, k (.ref q) [(q, raw (.lst (b.choices.map fun (k : Nat) => V.int k))), (p, benchO K b)]
def sp_Bench_clear_out (K : PySem.W.Frag) : Sp := SpS fun vs pre k => ∃ (p : Addr) (b b' : BenchM) (j : Nat), vs = [.ref p, .int j] ∧ pre = [(p, benchO K b)] ∧ b.ok ∧ j < b.stacks.length ∧ b.clearOut j = some b' ∧ k (.int (b.moved j).length) [(p, benchO K b')]
local macro_rules | `(tactic| walk_at "gf") => `(tactic| first
  | ((with_reducible refine' fldB_stacks ?T ?R ?s ?_); (case T => assumption); (case R => assumption); (case s => (walk_at "sel"; done)))
  | ((with_reducible refine' fldB_pages ?T ?R ?s ?_); (case T => assumption); (case R => assumption); (case s => (walk_at "sel"; done)))
  | ((with_reducible refine' fldB_times ?T ?R ?s ?_); (case T => assumption); (case R => assumption); (case s => (walk_at "sel"; done))))
/-- Bench.__init__: self 0, blocks 1, pages 2, block 3 -/
def t_Bench___init__ (K : PySem.W.Frag) : TS := tSeq (sFld K (tVar 0) (tVar 2) "pages") (tSeq (sFld K (tVar 0) (tLc (iRng1 (tCons (tVar 1) (tNil))) (gName 3) (tYes) (tLst (tNil)) [3]) "stacks") (sFld K (tVar 0) (tOp rRep (tLst (tCons (tC (.int (0))) (tNil))) (tVar 1)) "times"))
/-- Bench.copied: self 0, other 1, stack 2 -/
def t_Bench_copied (K : PySem.W.Frag) : TS := tSeq (tAsg (tMake (He.ga K "Bench") (sp_Bench___init__ K) [] E0 (tCons (tCB (rLenV K) (tCons (tFld K (tVar 0) "stacks") (tNil))) (tCons (tFld K (tVar 0) "pages") (tNil)))) (gName 1)) (tSeq (sFld K (tVar 1) (tLc (iList K (tFld K (tVar 0) "stacks")) (gName 2) (tYes) (tCB (rListOf K) (tCons (tVar 2) (tNil))) [2]) "stacks") (tSeq (sFld K (tVar 1) (tCB (rListOf K) (tCons (tFld K (tVar 0) "times") (tNil))) "times") (tRet (tVar 1))))
/-- Bench.empty_ones: self 0, found 1, times 2, block 3, k 4 -/
def t_Bench_empty_ones (K : PySem.W.Frag) : TS := tSeq (tAsg (tCB (rSortedPO K) (tCons (tLc (iRng1 (tCons (tCB (rLenV K) (tCons (tFld K (tVar 0) "stacks") (tNil))) (tNil))) (gName 4) (tTest (tOp (rEqD K) (tOp (rIxL K) (tFld K (tVar 0) "stacks") (tVar 4)) (tLst (tNil)))) (tTup (tCons (tOp (rIxL K) (tFld K (tVar 0) "times") (tVar 4)) (tCons (tVar 4) (tNil)))) [4]) (tNil))) (gName 1)) (tRet (tLc (iList K (tVar 1)) (gTup K 2 (gCons (gName 2) (gCons (gName 3) (gNil)))) (tYes) (tVar 3) [2, 3]))
/-- Bench.begun: self 0, block 1, stack 2 -/
def t_Bench_begun (K : PySem.W.Frag) : TS := tSeq (tFor (iEnum K (tCons (tFld K (tVar 0) "stacks") (tNil))) (gTup K 2 (gCons (gName 1) (gCons (gName 2) (gNil)))) (tIfS (tChainT rLtI rLtI (tC (.int (0))) (tCB (rLenV K) (tCons (tVar 2) (tNil))) (tFld K (tVar 0) "pages")) (tRet (tVar 1)) (tNext))) (tRet (tC .non))
/-- Bench.is_ready: self 0, free 1 -/
def t_Bench_is_ready (K : PySem.W.Frag) : TS := tSeq (tAsg (tCB (rLenV K) (tCons (tMeth (He.ga K "Bench") "empty_ones" (sp_Bench_empty_ones K) [] E0 (tVar 0) tNil) (tNil))) (gName 1)) (tRet (tOrV (tOp rGtI (tVar 1) (tC (.int (1)))) (tAndV (tOp rEq (tVar 1) (tC (.int (1)))) (tOp rNotN (tMeth (He.ga K "Bench") "begun" (sp_Bench_begun K) [] E0 (tVar 0) tNil) (tC .non)))))
/-- Bench.lay_down: self 0, sheet 1, stack 2, block 3 -/
def t_Bench_lay_down (K : PySem.W.Frag) : TS := tSeq (tFor (iList K (tFld K (tVar 0) "stacks")) (gName 2) (tIfS (tTest (tOp (rIn K false) (tVar 1) (tVar 2))) (tAsg (tC .non) (gSub (tVar 2) (tBM K "list" (rIndex K) (tVar 2) (tCons (tVar 1) (tNil))) rSetL)) (tNext))) (tSeq (tAsg (tMeth (He.ga K "Bench") "begun" (sp_Bench_begun K) [] E0 (tVar 0) tNil) (gName 3)) (tSeq (tIfS (tTest (tOp rIsN (tVar 3) (tC .non))) (tAsg (tOp (rIxL K) (tMeth (He.ga K "Bench") "empty_ones" (sp_Bench_empty_ones K) [] E0 (tVar 0) tNil) (tC (.int (0)))) (gName 3)) (tNext)) (tDrop (tBM K "list" rAppend (tOp (rIxL K) (tFld K (tVar 0) "stacks") (tVar 3)) (tCons (tVar 1) (tNil))))))
/-- Bench.choices: self 0, k 1 -/
def t_Bench_choices (K : PySem.W.Frag) : TS := tRet (tLc (iRng1 (tCons (tCB (rLenV K) (tCons (tFld K (tVar 0) "stacks") (tNil))) (tNil))) (gName 1) (tAnd (tTest (tOp rEq (tCB (rLenV K) (tCons (tOp (rIxL K) (tFld K (tVar 0) "stacks") (tVar 1)) (tNil))) (tFld K (tVar 0) "pages"))) (tTest (tOp (rIn K false) (tC .non) (tOp (rIxL K) (tFld K (tVar 0) "stacks") (tVar 1))))) (tVar 1) [1])
/-- Bench.clear_out: self 0, block 1, moved 2, sheet 3 -/
def t_Bench_clear_out (K : PySem.W.Frag) : TS := tSeq (tAsg (tLc (iList K (tOp (rIxL K) (tFld K (tVar 0) "stacks") (tVar 1))) (gName 3) (tTest (tOp rNotN (tVar 3) (tC .non))) (tVar 3) [3]) (gName 2)) (tSeq (tFor (iList K (tVar 2)) (gName 3) (tDrop (tMeth (He.ga K "Bench") "lay_down" (sp_Bench_lay_down K) [] E0 (tVar 0) (tCons (tVar 3) (tNil))))) (tSeq (tAsg (tLst (tNil)) (gSub (tFld K (tVar 0) "stacks") (tVar 1) rSetL)) (tSeq (tAugS (tFld K (tVar 0) "times") (tVar 1) (tC (.int (1))) (rIxL K) (ipI fun i j => i + j) rSetL) (tRet (tCB (rLenV K) (tCons (tVar 2) (tNil)))))))
abbrev endsOf (Q : VK) : Ends := { nx := fun _ H' => Q .non H', rt := Q }
section
variable {K : PySem.W.Frag} {vs : List V} {H : Hp} {Q : VK} {E : XK}
theorem pure_Bench___init__ (T : TBench K) (h : sp_Bench___init__ K vs H Q E) : t_Bench___init__ K (endsOf Q) (start ["self", "blocks", "pages", "block"] vs) H := by
  obtain ⟨pre, F, R, p, dx, n, pages, rfl, rfl, hn, k⟩ := h.use
  unfold t_Bench___init__
  walk_at "g"
  refine sfld_at T R (by walk_at "sel") (by decide +kernel) (by decide) (gs := [("pages", .int pages)]) (by kernel_rfl) fun H1 R1 => ?_
  walk_at "g"
  refine rng1_at (by omega) (by omega) ?_
  refine lcJ (wk_range (n := n)) (fun i acc L => ∃ ss : List Addr, ss.length = i ∧ acc = ss.map V.ref ∧ L = lblk stO ss (List.replicate i []) :: (p, raw (.ins (cBench K) dx [("pages", .int pages)])) :: F) (lblk_nil R1) ⟨[], rfl, rfl, rfl⟩ (fun _ _ _ _ _ _ => trivial) ?_ ?_
  · rintro i x cs acc D H2 L hi ha ⟨ss, hl, rfl, rfl⟩ ⟨rfl, rfl⟩ R2
    walk_at "g"
    refine ⟨rfl, ?_⟩
    walk_at "g"
    refine lst_new R2 (by simp) fun a H3 R3 => ?_
    have R4 := lblk_snoc (f := stO) (a := a) (x := []) R3 (by walk_at "sel") (by walk_at "sel") (by simp [hl])
    refine lc_put R4 (by walk_at "sel") ha (by omega) ⟨ss ++ [a], by simp [hl], by simp, ?_⟩
    rw [List.replicate_succ']
  · rintro acc D H2 L R2 ⟨ss, hl, rfl, rfl⟩
    walk_at "g"
    refine sfld_at T R2 (by walk_at "sel") (by decide +kernel) (by simp) (gs := [("pages", .int pages), ("stacks", .ref D)]) (by kernel_rfl) fun H4 R4 => ?_
    walk_at "g"
    refine lst_new R4 (by simp) fun a H5 R5 => ?_
    walk_at "g"
    refine rep_at R5 (by walk_at "sel") (by omega) (by simp; omega) (by omega) fun c H6 R6 => ?_
    walk_at "g"
    refine sfld_at T R6 (by walk_at "sel") (by decide +kernel) (by simp) (gs := benchF D c pages) (by kernel_rfl) fun H7 R7 => ?_
    have e : (List.replicate ((n : Int).toNat) [V.int 0]).flatten = (BenchM.new n pages).times.map V.int := by simp [BenchM.new]
    rw [e] at R7
    exact k _ ((bench_close (b := BenchM.new n pages) (ss := ss) (by simp [BenchM.new, hl]) R7 (by walk_at "sels")).fin (by walk_at "sels") (by walk_at "drops"))
theorem pure_Bench_copied (T : TBench K) (h : sp_Bench_copied K vs H Q E) : t_Bench_copied K (endsOf Q) (start ["self", "other", "stack"] vs) H := by
  obtain ⟨pre, F, R, p, b, rfl, rfl, ok, k⟩ := h.use
  obtain ⟨o1, o2, o3, o4, o5⟩ := id ok
  obtain ⟨dx, aS, aT, ss, hl, R1⟩ := bench_open R .here
  unfold t_Bench_copied
  walk_at "g"
  refine make_at R1 fun x dx' H2 R2 => ?_
  refine SpS.call R2 (by walk_at "sels") ⟨x, dx', _, b.pages, rfl, rfl, by simp; omega, fun H3 R3 => ⟨rfl, ?_⟩⟩
  walk_at "g"
  refine lcJ (wk_list (xs := ss.map V.ref)) (fun i acc L => ∃ ts : List Addr, ts.length = i ∧ acc = ts.map V.ref ∧ L = (lblk stO ts (b.stacks.take i) :: (x, benchO K (BenchM.new (ss.map V.ref).length b.pages)) :: benchC K b p dx aS aT ss) ++ F) (lblk_nil R3) ⟨[], rfl, rfl, rfl⟩ (fun i acc L D _ ⟨ts, _, _, e⟩ => ?_) ?_ ?_
  · subst e
    walk_at "lst"
  · rintro i y cs acc D H4 L hi ha ⟨ts, htl, rfl, rfl⟩ ⟨hy, rfl⟩ R4
    rw [List.length_map] at hi
    obtain ⟨a, ea⟩ : ∃ a, ss[i]? = some a := ⟨ss[i], by simp [hi]⟩
    obtain ⟨st, es⟩ : ∃ st, b.stacks[i]? = some st := ⟨b.stacks[i]'(by omega), by simp [show i < b.stacks.length by omega]⟩
    have ey : y = .ref a := by rw [List.getElem?_map, ea] at hy; exact (Option.some.inj hy).symm
    subst ey
    walk_at "g"
    refine ⟨rfl, ?_⟩
    walk_at "g"
    obtain ⟨A, R5, back⟩ := lblk_at (f := stO) R4 (by walk_at "sel") ea es
    refine go_listOf R5 (xs := st.map optV) (.raw .here) fun q H5 R6 => ?_
    have R7 := back _ _ _ _ st R6 (by walk_at "sel") (by walk_at "sel")
    rw [set_self es] at R7
    have R8 := lblk_snoc (f := stO) (ss := ts) (xs := b.stacks.take i) (a := q) (x := st) R7 (by walk_at "sel") (by walk_at "sel") (by rw [List.length_take]; omega)
    have e4 : b.stacks.take (i + 1) = b.stacks.take i ++ [st] := by rw [List.take_add_one, es]; rfl
    rw [← e4] at R8
    exact lc_puts ha (by omega) ⟨ts ++ [q], by simp [htl], by simp, rfl⟩ R8 (by walk_at "sels") (by walk_at "drops")
  · rintro acc D H4 L R4 ⟨ts, htl, rfl, rfl⟩
    rw [List.length_map] at htl
    have e5 : b.stacks.take (ss.map V.ref).length = b.stacks := by rw [List.length_map, hl, List.take_length]
    rw [e5] at R4
    obtain ⟨dx2, aS2, aT2, ss2, hl2, R5⟩ := bench_open (p := x) R4 (by walk_at "sel")
    walk_at "g"
    refine sfld_at T R5 (by walk_at "sel") (by decide +kernel) (by simp [benchF]) (gs := benchF D aT2 b.pages) (by kernel_rfl) fun H6 R6 => ?_
    walk_at "g"
    refine go_listOf R6 (by walk_at "lst") fun q H7 R7 => ?_
    walk_at "g"
    refine sfld_at T R7 (by walk_at "sel") (by decide +kernel) (by simp [benchF]) (gs := benchF D q b.pages) (by kernel_rfl) fun H8 R8 => ?_
    walk_at "g"
    have R9 := bench_close (b := b) (p := x) (ss := ts) (by omega) R8 (by walk_at "sels")
    have R10 := bench_close (b := b) (p := p) hl R9 (by walk_at "sels")
    exact k x _ (R10.fin (by walk_at "sels") (by walk_at "drops"))
end
section
variable {K : PySem.W.Frag} {vs : List V} {H : Hp} {Q : VK} {E : XK}
theorem pure_Bench_begun (T : TBench K) (h : sp_Bench_begun K vs H Q E) : t_Bench_begun K (endsOf Q) (start ["self", "block", "stack"] vs) H := by
  obtain ⟨pre, F, R, p, b, rfl, rfl, ok, k⟩ := h.use
  obtain ⟨o1, o2, o3, o4, o5⟩ := id ok
  obtain ⟨dx, aS, aT, ss, hl, R1⟩ := bench_open R .here
  unfold t_Bench_begun
  walk_at "g"
  refine forJ (wk_enum (xs := ss.map V.ref)) (fun i σ L => (∃ u v, σ = [some (.ref p), u, v]) ∧ (∀ j, j < i → b.partly j = false) ∧ L = benchC K b p dx aS aT ss ++ F) R1 ⟨⟨_, _, rfl⟩, fun j h => absurd h (Nat.not_lt_zero _), rfl⟩ (fun i σ L _ ⟨_, _, e⟩ => ?_) ?_ ?_
  · subst e
    walk_at "lst"
  · rintro i x cs σ H2 L hi ⟨⟨u, v, rfl⟩, hj, rfl⟩ ⟨t, y, hy, rfl, rfl⟩ R2
    rw [List.length_map] at hi
    obtain ⟨a, ea⟩ : ∃ a, ss[i]? = some a := ⟨ss[i], by simp [hi]⟩
    obtain ⟨st, es⟩ : ∃ st, b.stacks[i]? = some st := ⟨b.stacks[i]'(by omega), by simp [show i < b.stacks.length by omega]⟩
    have ey : y = .ref a := by rw [List.getElem?_map, ea] at hy; exact (Option.some.inj hy).symm
    subst ey
    have eD : b.stacks.getD i [] = st := BenchM.getD_of es
    have R4 : Rel H2 ((p, benchO K b) :: F) := (bench_close hl R2 (by walk_at "sels")).fin (cs := [_]) (by walk_at "sels") (by walk_at "drops")
    have no : b.partly i = false → InvS (fun σ L => (∃ u v, σ = [some (.ref p), u, v]) ∧ (∀ j, j < i + 1 → b.partly j = false) ∧ L = benchC K b p dx aS aT ss ++ F) [some (.ref p), some (.int i), some (.ref a)] H2 := fun hf =>
      inv_s ⟨⟨_, _, rfl⟩, fun j h => by
        rcases Nat.lt_or_ge j i with h' | h'
        · exact hj j h'
        · have : j = i := by omega
          subst this; exact hf, rfl⟩ R2 (by walk_at "sels") (by walk_at "drops")
    walk_at "g"
    obtain ⟨A, R3, _⟩ := lblk_at (f := stO) R2 (by walk_at "sel") ea es
    walk_at "g"
    have hlm : (st.map optV).length = st.length := List.length_map _
    refine ite_d (fun h1 => ?_) fun h1 => ?_ <;> rw [hlm] at h1
    · walk_at "g"
      refine ite_d (fun h2 => ?_) fun h2 => ?_ <;> rw [hlm] at h2
      · walk_at "g"
        have hp : b.partly i = true := by
          unfold BenchM.partly
          rw [eD, decide_eq_true (show 0 < st.length by omega), decide_eq_true h2]; rfl
        rw [BenchM.begun_some hj hp (by omega)] at k
        exact k _ R4
      · walk_at "g"
        exact no (by unfold BenchM.partly; rw [eD, decide_eq_false h2, Bool.and_false])
    · walk_at "g"
      exact no (by unfold BenchM.partly; rw [eD, decide_eq_false (show ¬ 0 < st.length by omega), Bool.false_and])
  · rintro σ H2 L R2 ⟨⟨u, v, rfl⟩, hj, rfl⟩
    walk_at "g"
    rw [List.length_map, hl] at hj
    rw [BenchM.begun_none hj] at k
    exact k _ ((bench_close hl R2 (by walk_at "sels")).fin (by walk_at "sels") (by walk_at "drops"))
theorem bench_ins {L L' : List Cell} {p : Addr} {b : BenchM} (R : Rel H L) (s : Sel (p, benchO K b) L L') : ∃ dx aS aT, H p = some (.ins (cBench K) dx (benchF aS aT b.pages)) := by
  obtain ⟨dx, aS, aT, ss, hl, R1⟩ := bench_open R s
  exact ⟨dx, aS, aT, R1.at .here⟩
theorem meth_bench {L L' : List Cell} {p : Addr} {b : BenchM} {m : Str} {sp : Sp} {dvs : List V} {E : XK} {tar : TA} {σ : L2.St} (hm : m ∉ (["pages", "stacks", "times"] : List Str)) (R : Rel H L) (s : Sel (p, benchO K b) L L') (q : tar σ H fun vs H2 => sp (.ref p :: (vs ++ dvs)) H2 Q E) : MethAt (cBench K) m sp dvs E tar σ Q (.ref p) H := by
  obtain ⟨dx, aS, aT, h⟩ := bench_ins R s
  refine meth_at h ?_ q
  simp only [List.mem_cons, List.not_mem_nil, or_false, not_or] at hm
  obtain ⟨h1, h2, h3⟩ := hm
  have e1 : (m == ("pages" : Str)) = false := beq_eq_false_iff_ne.mpr h1
  have e2 : (m == ("stacks" : Str)) = false := beq_eq_false_iff_ne.mpr h2
  have e3 : (m == ("times" : Str)) = false := beq_eq_false_iff_ne.mpr h3
  simp [benchF, List.lookup, e1, e2, e3]
theorem pure_Bench_is_ready (T : TBench K) (h : sp_Bench_is_ready K vs H Q E) : t_Bench_is_ready K (endsOf Q) (start ["self", "free"] vs) H := by
  obtain ⟨pre, F, R, p, b, rfl, rfl, ok, k⟩ := h.use
  unfold t_Bench_is_ready
  walk_at "g"
  refine meth_bench (by decide +kernel) R .here ?_
  walk_at "g"
  refine SpS.call R (by walk_at "sels") ⟨p, b, rfl, rfl, ok, fun q H1 R1 => ?_⟩
  walk_at "g"
  have hk : ∀ H', Rel H' ((p, benchO K b) :: F) → Q (.bl b.isReady) H' := k
  unfold BenchM.isReady at hk
  refine ite_d (fun h1 => ?_) fun h1 => ?_
  · walk_at "g"
    rw [List.length_map] at h1
    have e : (decide (1 < b.emptyOnes.length) || (decide (b.emptyOnes.length = 1) && b.begun.isSome)) = true := by simp; left; omega
    rw [e] at hk
    simp only [List.length_map, h1]
    exact hk _ (R1.fin (cs := [_]) (by walk_at "sels") (by walk_at "drops"))
  · walk_at "g"
    refine go_eq rfl ?_
    walk_at "g"
    rw [List.length_map] at h1
    refine ite_d (fun h2 => ?_) fun h2 => ?_
    · walk_at "g"
      refine meth_bench (by decide +kernel) R1 (by walk_at "sel") ?_
      walk_at "g"
      refine SpS.call R1 (by walk_at "sels") ⟨p, b, rfl, rfl, ok, fun H2 R2 => ?_⟩
      walk_at "g"
      have h2' : b.emptyOnes.length = 1 := by
        have := V.int.inj h2
        rw [List.length_map] at this
        omega
      have e : (decide (1 < b.emptyOnes.length) || (decide (b.emptyOnes.length = 1) && b.begun.isSome)) = !decide (optV (b.begun.map fun (k : Nat) => (k : Int)) = .non) := by
        rw [h2']
        cases b.begun <;> simp [optV]
      rw [e] at hk
      exact hk _ (R2.fin (cs := [_]) (by walk_at "sels") (by walk_at "drops"))
    · have e : (decide (1 < b.emptyOnes.length) || (decide (b.emptyOnes.length = 1) && b.begun.isSome)) = false := by
        have : ¬ b.emptyOnes.length = 1 := fun q => h2 (by rw [List.length_map, q]; rfl)
        simp [this]; omega
      rw [e] at hk
      exact hk _ (R1.fin (cs := [_]) (by walk_at "sels") (by walk_at "drops"))
end
section
variable {K : PySem.W.Frag} {vs : List V} {H : Hp} {Q : VK} {E : XK}
theorem optV_flat (st : List (Option Int)) : (st.map optV).all flatV = true := by
  rw [List.all_eq_true]
  intro x hx
  obtain ⟨o, _, rfl⟩ := List.mem_map.mp hx
  cases o <;> rfl
theorem eqV_opt (o o' : Option Int) : eqV (optV o) (optV o') = decide (o = o') := by
  cases o with
  | none => cases o' <;> simp [optV, eqV]
  | some i => cases o' with
    | none => simp [optV, eqV]
    | some j =>
      show (i == j) = _
      by_cases h : i = j <;> simp [h]
theorem inV_opt (o : Option Int) (st : List (Option Int)) : inV (optV o) (st.map optV) = decide (o ∈ st) := by
  unfold inV
  induction st with
  | nil => rfl
  | cons x l ih =>
    rw [List.map_cons, List.any_cons, ih, eqV_opt]
    by_cases h : x = o
    · subst h; simp
    · have : ¬ o = x := fun q => h q.symm
      simp [h, this]
theorem pure_Bench_choices (T : TBench K) (h : sp_Bench_choices K vs H Q E) : t_Bench_choices K (endsOf Q) (start ["self", "k"] vs) H := by
  obtain ⟨pre, F, R, p, b, rfl, rfl, ok, k⟩ := h.use
  obtain ⟨o1, o2, o3, o4, o5⟩ := id ok
  obtain ⟨dx, aS, aT, ss, hl, R1⟩ := bench_open R .here
  unfold t_Bench_choices
  walk_at "g"
  refine rng1_at (by omega) (by rw [List.length_map]; omega) ?_
  refine lcF (wk_range (n := (ss.map V.ref).length)) (fun i => if b.full i = true then some (.int i) else none) R1 (fun _ _ => trivial) ?_ ?_
  · rintro i x cs acc D H2 hi ha ⟨rfl, rfl⟩ R2
    rw [List.length_map] at hi
    obtain ⟨a, ea⟩ : ∃ a, ss[i]? = some a := ⟨ss[i], by simp [hi]⟩
    obtain ⟨st, es⟩ : ∃ st, b.stacks[i]? = some st := ⟨b.stacks[i]'(by omega), by simp [show i < b.stacks.length by omega]⟩
    have eD : b.stacks.getD i [] = st := BenchM.getD_of es
    have e0 : (0 : Int) + i = (i : Int) := Int.zero_add _
    rw [e0]
    walk_at "g"
    refine ⟨rfl, ?_⟩
    have ix : ∀ {Q : VK}, Q (.ref a) H2 → rIxL K (.ref aS) (.int i) H2 Q := fun q => ixL_at R2 (by walk_at "lst") (atI_of (by omega) (by simp [ea])) q
    walk_at "g"
    refine ix ?_
    walk_at "g"
    obtain ⟨A, R3, _⟩ := lblk_at (f := stO) R2 (by walk_at "sel") ea es
    walk_at "g"
    refine go_eq rfl ?_
    walk_at "g"
    have hlm : (st.map optV).length = st.length := List.length_map _
    refine ite_d (fun h1 => ?_) fun h1 => ?_ <;> rw [hlm] at h1
    · have h1' := V.int.inj h1
      walk_at "g"
      refine ix ?_
      refine in_at R3 (xs := st.map optV) (.raw .here) rfl (optV_flat st) ?_
      walk_at "g"
      rw [show inV V.non (st.map optV) = decide (none ∈ st) from inV_opt none st]
      refine ite_d (fun h2 => ?_) fun h2 => ?_
      · walk_at "g"
        have hp : b.full i = true := by unfold BenchM.full; rw [eD]; simp [h1', h2]
        exact flt_put (by rw [hp]; rfl) (by omega) ha R2 (by walk_at "sel") (by walk_at "drops")
      · have hp : b.full i = false := by unfold BenchM.full; rw [eD]; simp [h2]
        exact flt_not (by rw [hp]; rfl) ha R2 (by walk_at "sel") (by walk_at "drops")
    · walk_at "g"
      have hp : b.full i = false := by unfold BenchM.full; rw [eD]; simp; intro q; exact absurd (congrArg V.int q) h1
      exact flt_not (by rw [hp]; rfl) ha R2 (by walk_at "sel") (by walk_at "drops")
  · intro D H2 R2
    walk_at "g"
    have e : (List.range (ss.map V.ref).length).filterMap (fun i => if b.full i = true then some (V.int i) else none) = b.choices.map fun (k : Nat) => V.int k := by
      rw [List.length_map, hl]
      unfold BenchM.choices
      induction (List.range b.stacks.length) with
      | nil => rfl
      | cons x l ih =>
        cases hx : b.full x <;> simp [List.filterMap_cons, List.filter_cons, hx, ih]
    rw [e] at R2
    exact k D _ ((bench_close hl R2 (by walk_at "sels")).fin (by walk_at "sels") (by walk_at "drops"))
end
/-! ### sorted pairs -/
def pairV (q : Int × Int) : List V := [.int q.1, .int q.2]
def sortedP (l : List (Int × Int)) : Prop := l.Pairwise fun x y => SrtO.lexB y x = false
theorem insP_perm (x : Int × Int) : ∀ l, (insP x l).Perm (x :: l)
  | [] => List.Perm.refl _
  | y :: l => by
    unfold insP
    split
    · exact ((insP_perm x l).cons y).trans (List.Perm.swap x y l)
    · exact List.Perm.refl _
theorem srtP_perm : ∀ l, (srtP l).Perm l
  | [] => List.Perm.refl _
  | x :: l => (insP_perm x _).trans ((srtP_perm l).cons x)
theorem lexB_asym {p q : Int × Int} (h : SrtO.lexB p q = true) : SrtO.lexB q p = false := by
  rw [SrtO.lexB_iff] at h
  rw [SrtO.lexB_no]; omega
theorem lexB_trans {x y z : Int × Int} (h1 : SrtO.lexB y x = false) (h2 : SrtO.lexB z y = false) : SrtO.lexB z x = false := by
  rw [SrtO.lexB_no] at h1 h2 ⊢; omega
theorem lexB_anti {x y : Int × Int} (h1 : SrtO.lexB y x = false) (h2 : SrtO.lexB x y = false) : x = y := by
  rw [SrtO.lexB_no] at h1 h2
  have : x.1 = y.1 := by omega
  have : x.2 = y.2 := by omega
  exact Prod.ext (by assumption) (by assumption)
theorem insP_sorted (x : Int × Int) : ∀ l, sortedP l → sortedP (insP x l)
  | [], _ => List.pairwise_singleton _ _
  | y :: l, h => by
    unfold insP
    obtain ⟨h1, h2⟩ := List.pairwise_cons.mp h
    split
    · rename_i hc
      refine List.pairwise_cons.mpr ⟨fun z hz => ?_, insP_sorted x l h2⟩
      rcases List.mem_cons.mp ((insP_perm x l).mem_iff.mp hz) with e | hz
      · subst e; exact lexB_asym hc
      · exact h1 z hz
    · rename_i hc
      have hc : SrtO.lexB y x = false := by simpa using hc
      refine List.pairwise_cons.mpr ⟨fun z hz => ?_, h⟩
      rcases List.mem_cons.mp hz with e | hz
      · subst e; exact hc
      · exact lexB_trans hc (h1 z hz)
theorem srtP_sorted : ∀ l, sortedP (srtP l)
  | [] => List.Pairwise.nil
  | x :: l => insP_sorted x _ (srtP_sorted l)
theorem sorted_uniq : ∀ {l m : List (Int × Int)}, sortedP l → sortedP m → l.Perm m → l = m
  | [], m, _, _, p => by have := p.length_eq; simp at this; exact (List.length_eq_zero_iff.mp this.symm).symm
  | x :: l, [], _, _, p => by have := p.length_eq; simp at this
  | x :: l, y :: m, h1, h2, p => by
    obtain ⟨a1, a2⟩ := List.pairwise_cons.mp h1
    obtain ⟨b1, b2⟩ := List.pairwise_cons.mp h2
    have e : x = y := by
      rcases List.mem_cons.mp (p.mem_iff.mp (List.mem_cons_self)) with e | hx
      · exact e
      · rcases List.mem_cons.mp (p.mem_iff.mpr (List.mem_cons_self)) with e | hy
        · exact e.symm
        · exact lexB_anti (a1 y hy) (b1 x hx)
    subst e
    rw [sorted_uniq a2 b2 p.cons_inv]
/-- what stands at a pair's address -/
def keyP (H : Hp) (v : V) : Int × Int := match v with
  | .ref t => (match H t with
    | some (.tup [.int a, .int b]) => (a, b)
    | _ => (0, 0))
  | _ => (0, 0)
theorem tps_key {H : Hp} : ∀ {ss : List Addr} {xs : List (Int × Int)} {F : List Cell}, ss.length = xs.length → Rel H (lcells tupO ss (xs.map pairV) ++ F) → (∀ s ∈ ss, H s = some (.tup (pairV (keyP H (.ref s))))) ∧ ss.map (fun s => keyP H (.ref s)) = xs
  | [], [], F, _, R => ⟨fun _ h => absurd h (List.not_mem_nil), rfl⟩
  | s :: ss, x :: xs, F, h, R => by
    have R' : Rel H ((s, tupO (pairV x)) :: (lcells tupO ss (xs.map pairV) ++ F)) := R
    have hs := R'.tup0
    have e : keyP H (.ref s) = x := by
      show (match H s with
        | some (.tup [.int a, .int b]) => (a, b)
        | _ => (0, 0)) = x
      rw [hs]; rfl
    obtain ⟨h1, h2⟩ := tps_key (by simpa using h) R'.drop
    refine ⟨fun t ht => ?_, by rw [List.map_cons, e, h2]⟩
    rcases List.mem_cons.mp ht with rfl | ht
    · rw [e]; exact hs
    · exact h1 t ht
theorem tps_make {H : Hp} : ∀ {ss : List Addr} {xs : List (Int × Int)} {F : List Cell}, Rel H F → (∀ s ∈ ss, H s = some (.tup (pairV (keyP H (.ref s))))) → ss.map (fun s => keyP H (.ref s)) = xs → Rel H (lcells tupO ss (xs.map pairV) ++ F)
  | [], xs, F, R, _, e => by subst e; exact R
  | s :: ss, xs, F, R, h, e => by
    subst e
    show Rel H ((s, tupO (pairV (keyP H (.ref s)))) :: (lcells tupO ss _ ++ F))
    exact (tps_make R (fun t ht => h t (List.mem_cons_of_mem _ ht)) rfl).addTup (h s List.mem_cons_self)
/-! ### data that is compared -/
def pyO : Option Int → PyData
  | none => .none
  | some i => .int i
theorem dp_opt {K : PySem.W.Frag} {H : Hp} : ∀ st : List (Option Int), DpAll K H (st.map optV) (st.map pyO)
  | [] => .nil
  | none :: st => .cons .non (dp_opt st)
  | some i :: st => .cons (.int i) (dp_opt st)
theorem lay_opt : ∀ st : List (Option Int), PyData.canLayAll0 (st.map pyO) = true ∧ PyData.depthAll (st.map pyO) = 0
  | [] => ⟨rfl, rfl⟩
  | none :: st => ⟨(lay_opt st).1, by
    show max 0 (PyData.depthAll (st.map pyO)) = 0
    rw [(lay_opt st).2]; rfl⟩
  | some i :: st => ⟨(lay_opt st).1, by
    show max 0 (PyData.depthAll (st.map pyO)) = 0
    rw [(lay_opt st).2]; rfl⟩
theorem shaped_opt (st : List (Option Int)) : SeqAt.shaped (.list (st.map pyO)) = true := by
  unfold SeqAt.shaped
  have h1 : (PyData.list (st.map pyO)).canLay0 = true := (lay_opt st).1
  have h2 : (PyData.list (st.map pyO)).depth = 1 := by
    show PyData.depthAll (st.map pyO) + 1 = 1
    rw [(lay_opt st).2]
  rw [h1, h2]; rfl
theorem eqv_nil (xs : List PyData) : PyData.eqv (.list xs) (.list []) = xs.isEmpty := by cases xs <;> rfl
section
variable {K : PySem.W.Frag} {vs : List V} {H : Hp} {Q : VK} {E : XK} {L L' : List Cell} {a : Addr}
theorem sortedPO_at {xs : List (Int × Int)} (R : Rel H L) (s : Sel (a, tpsO (xs.map pairV)) L L') (q : ∀ b H', Rel H' ((b, tpsO ((srtP xs).map pairV)) :: L') → Q (.ref b) H') : rSortedPO K [.ref a] H Q := by
  obtain ⟨ss, hl, R1⟩ := ls_open R s
  have hl : ss.length = xs.length := by simpa using hl
  obtain ⟨t1, t2⟩ := tps_key hl (blk_open (R1.sel (c := lblk tupO ss (xs.map pairV)) (.there .here)))
  refine ⟨a, ss.map V.ref, keyP H, rfl, .inl (.inl R1.raw0), fun x hx => ?_, fun ys p h1 h2 hp => ?_⟩
  · obtain ⟨t, ht, rfl⟩ := List.mem_map.mp hx
    exact ⟨t, rfl, t1 t ht⟩
  · have pm := h2.perm
    obtain ⟨ts, rfl⟩ : ∃ ts : List Addr, ys = ts.map V.ref := by
      have : ∀ y ∈ ys, ∃ t, y = V.ref t := fun y hy => by
        obtain ⟨t, _, e⟩ := List.mem_map.mp (pm.mem_iff.mp hy)
        exact ⟨t, e.symm⟩
      clear pm h1 h2
      induction ys with
      | nil => exact ⟨[], rfl⟩
      | cons y l ih =>
        obtain ⟨t, rfl⟩ := this y List.mem_cons_self
        obtain ⟨ts, rfl⟩ := ih fun z hz => this z (List.mem_cons_of_mem _ hz)
        exact ⟨t :: ts, rfl⟩
    have hmem : ∀ t ∈ ts, t ∈ ss := fun t ht => by
      obtain ⟨t', ht', e⟩ := List.mem_map.mp (pm.mem_iff.mp (List.mem_map_of_mem (f := V.ref) ht))
      cases e; exact ht'
    have e2 : ts.map (fun s => keyP H (.ref s)) = srtP xs := by
      have p1 : (ts.map fun s => keyP H (.ref s)).Perm xs := by
        have := pm.map (keyP H)
        rw [List.map_map, List.map_map] at this
        have e3 : ss.map (keyP H ∘ V.ref) = xs := t2
        rw [e3] at this
        exact this
      refine sorted_uniq ?_ (srtP_sorted xs) (p1.trans (srtP_perm xs).symm)
      have h1' : (ts.map V.ref).Pairwise fun x y => SrtO.lexB (keyP H y) (keyP H x) = false := h1
      rw [List.pairwise_map] at h1'
      unfold sortedP
      rw [List.pairwise_map]
      exact h1'
    have R2 : Rel H (lcells tupO ts ((srtP xs).map pairV) ++ L') := tps_make R1.drop.drop (fun t ht => t1 t (hmem t ht)) e2
    have R3 := (blk_close R2).new (o := .lst (ts.map V.ref)) hp
    refine q p _ (ls_close (ss := ts) ?_ R3 (by walk_at "sel") (by walk_at "sel"))
    rw [List.length_map, ← e2, List.length_map]
/-- a comprehension whose elements are new tuples -/
def InvT (f : Nat → Option (List V)) (L : List Cell) : Nat → List V → List Cell → Prop := fun i acc L' => ∃ ts : List Addr, acc = ts.map V.ref ∧ ts.length = ((List.range i).filterMap f).length ∧ L' = [lblk tupO ts ((List.range i).filterMap f)] ++ L
theorem fltT_put {f : Nat → Option (List V)} {i : Nat} {b t : Addr} {acc : List V} {y : List V} {M M' : List Cell} {ts : List Addr} (hf : f i = some y) (hi : i < 100000) (ha : acc = ts.map V.ref) (hl : ts.length = ((List.range i).filterMap f).length)
    (R : Rel H M) (s : Sels [(t, tupO y), (b, raw (.lst acc)), lblk tupO ts ((List.range i).filterMap f)] M M') (d : Drops M' L) :
    ∃ acc', H b = some (.lst acc') ∧ acc'.length < sizeLine ∧ InvC (InvT f L) (i + 1) b (upd H b (.lst (acc' ++ [V.ref t]))) := by
  subst ha
  have R1 := R.fin s d
  have R2 := lblk_snoc (f := tupO) (ss := ts) (xs := (List.range i).filterMap f) (a := t) (x := y) R1 (by walk_at "sel") (by walk_at "sel") hl
  have e : (List.range (i + 1)).filterMap f = (List.range i).filterMap f ++ [y] := by
    rw [List.range_succ, List.filterMap_append]; simp [hf]
  refine lc_put R2 (.there .here) (by rw [List.length_map, hl]; exact Nat.le_trans (List.length_filterMap_le _ _) (by simp)) hi ⟨ts ++ [t], by simp, by rw [e, List.length_append, List.length_append, hl]; rfl, ?_⟩
  rw [e]; rfl
theorem fltT_not {f : Nat → Option (List V)} {i : Nat} {b : Addr} {acc : List V} {M M' : List Cell} {ts : List Addr} (hf : f i = none) (ha : acc = ts.map V.ref) (hl : ts.length = ((List.range i).filterMap f).length)
    (R : Rel H M) (s : Sels [(b, raw (.lst acc)), lblk tupO ts ((List.range i).filterMap f)] M M') (d : Drops M' L) : InvC (InvT f L) (i + 1) b H := by
  subst ha
  have R1 := R.fin s d
  have e : (List.range (i + 1)).filterMap f = (List.range i).filterMap f := by
    rw [List.range_succ, List.filterMap_append]; simp [hf]
  refine lc_not R1 .here (by rw [List.length_map, hl]; exact Nat.le_trans (List.length_filterMap_le _ _) (by simp)) ⟨ts, rfl, by rw [e]; exact hl, ?_⟩
  rw [e]; rfl
theorem lcT {J : It} {n : Nat} {G : List Cell → Prop} {Y : Nat → V → List Cell → Prop} (w : WkS J n G Y) {g : TG} {tt : TT} {te : TE} {vs : List Nat} {σ : L2.St} (f : Nat → Option (List V)) (R : Rel H L)
    (hG : ∀ acc D c, G ((D, raw (.lst acc)) :: c :: L))
    (hs : ∀ i x cs acc D H ts, i < n → acc = ts.map V.ref → ts.length = ((List.range i).filterMap f).length → Y i x cs → Rel H (cs ++ (D, raw (.lst acc)) :: lblk tupO ts ((List.range i).filterMap f) :: L) → g x (wipe σ vs) H fun σ2 H2 => wipe σ2 vs = wipe σ vs ∧ tt σ2 H2 fun b H3 =>
      if b = true then te σ2 H3 fun y H4 => ∃ acc', H4 D = some (.lst acc') ∧ acc'.length < sizeLine ∧ InvC (InvT f L) (i + 1) D (upd H4 D (.lst (acc' ++ [y]))) else InvC (InvT f L) (i + 1) D H3)
    (hd : ∀ D H, Rel H ((D, tpsO ((List.range n).filterMap f)) :: L) → Q (.ref D) H) : LcJ g tt te vs σ Q J H :=
  lcJ w (InvT f L) (lblk_nil R) ⟨[], rfl, rfl, rfl⟩ (fun i acc L' D _ h => by obtain ⟨ts, h1, h2, rfl⟩ := h; exact hG acc D _) (fun i x cs acc D H L' hi _ h hy R' => by
    obtain ⟨ts, h1, h2, rfl⟩ := h
    exact hs i x cs acc D H ts hi h1 h2 hy R') fun acc D H L' R' h => by
    obtain ⟨ts, rfl, h2, rfl⟩ := h
    exact hd D H (ls_close h2 R' .here .here)
theorem filterMap_get {α β : Type} (g : α → β) : ∀ xs : List α, (List.range xs.length).filterMap (fun i => (xs[i]?).map g) = xs.map g := by
  intro xs
  induction xs with
  | nil => rfl
  | cons x l ih =>
    rw [List.length_cons, List.range_succ_eq_map, List.filterMap_cons]
    simp only [List.getElem?_cons_zero, Option.map_some, List.map_cons, List.filterMap_map]
    congr 1
theorem filterMap_get2 {α β : Type} (g : α → Option β) : ∀ xs : List α, (List.range xs.length).filterMap (fun i => (xs[i]?).bind g) = xs.filterMap g := by
  intro xs
  induction xs with
  | nil => rfl
  | cons x l ih =>
    rw [List.length_cons, List.range_succ_eq_map, List.filterMap_cons]
    simp only [List.getElem?_cons_zero, Option.bind_some, List.filterMap_cons, List.filterMap_map]
    have e : (List.range l.length).filterMap ((fun i => ((x :: l)[i]?).bind g) ∘ Nat.succ) = l.filterMap g := ih
    rw [e]
theorem pure_Bench_empty_ones (T : TBench K) (h : sp_Bench_empty_ones K vs H Q E) : t_Bench_empty_ones K (endsOf Q) (start ["self", "found", "times", "block", "k"] vs) H := by
  obtain ⟨pre, F, R, p, b, rfl, rfl, ok, k⟩ := h.use
  obtain ⟨o1, o2, o3, o4, o5⟩ := id ok
  obtain ⟨dx, aS, aT, ss, hl, R1⟩ := bench_open R .here
  unfold t_Bench_empty_ones
  walk_at "g"
  refine rng1_at (by omega) (by rw [List.length_map]; omega) ?_
  refine lcT (wk_range (n := (ss.map V.ref).length)) (fun i => if (b.stacks.getD i []).isEmpty = true then some (pairV (b.times.getD i 0, (i : Int))) else none) R1 (fun _ _ _ => trivial) ?_ ?_
  · rintro i x cs acc D H2 ts hi ha hts ⟨rfl, rfl⟩ R2
    rw [List.length_map] at hi
    obtain ⟨a, ea⟩ : ∃ a, ss[i]? = some a := ⟨ss[i], by simp [hi]⟩
    obtain ⟨st, es⟩ : ∃ st, b.stacks[i]? = some st := ⟨b.stacks[i]'(by omega), by simp [show i < b.stacks.length by omega]⟩
    obtain ⟨tm, et⟩ : ∃ tm, b.times[i]? = some tm := ⟨b.times[i]'(by omega), by simp [show i < b.times.length by omega]⟩
    have eD : b.stacks.getD i [] = st := BenchM.getD_of es
    have eT : b.times.getD i 0 = tm := BenchM.getD_of et
    have e0 : (0 : Int) + i = (i : Int) := Int.zero_add _
    rw [e0]
    walk_at "g"
    refine ⟨rfl, ?_⟩
    walk_at "g"
    refine ixL_at R2 (by walk_at "lst") (v := .ref a) (atI_of (by omega) (by simp [ea])) ?_
    walk_at "g"
    refine lst_new R2 (by simp) fun q H3 R3 => ?_
    obtain ⟨A, R4, _⟩ := lblk_at (f := stO) R3 (by walk_at "sel") ea es
    refine eqD_at (.lst ((Lst.raw (xs := st.map optV) .here).sq R4) (dp_opt st)) (.lst ((Lst.raw (xs := []) (by walk_at "sel")).sq R4) .nil) (shaped_opt st) (shaped_opt []) ?_
    rw [eqv_nil]
    walk_at "g"
    have e5 : (st.map pyO).isEmpty = st.isEmpty := by cases st <;> rfl
    rw [e5]
    refine ite_b (fun h1 => ?_) fun h1 => ?_
    · walk_at "g"
      refine ixL_at R3 (by walk_at "lst") (v := .int tm) (atI_of (by omega) (by simp [et])) ?_
      walk_at "g"
      refine tup_new R3 (by simp) fun t H5 R5 => ?_
      exact fltT_put (y := pairV (tm, (i : Int))) (by rw [eD, eT, h1]; rfl) (by omega) ha hts R5 (by walk_at "sels") (by walk_at "drops")
    · exact fltT_not (by rw [eD, h1]; rfl) ha hts R3 (by walk_at "sels") (by walk_at "drops")
  · intro D H2 R2
    walk_at "g"
    have e : (List.range (ss.map V.ref).length).filterMap (fun i => if (b.stacks.getD i []).isEmpty = true then some (pairV (b.times.getD i 0, (i : Int))) else none) = b.emptyPairs.map pairV := by
      rw [List.length_map, hl]
      unfold BenchM.emptyPairs
      induction (List.range b.stacks.length) with
      | nil => rfl
      | cons x l ih =>
        cases hx : (b.stacks.getD x []).isEmpty <;> simp only [List.filterMap_cons, List.filter_cons, hx, ih, List.map_cons] <;> rfl
    rw [e] at R2
    refine sortedPO_at R2 .here fun q H3 R3 => ?_
    walk_at "g"
    obtain ⟨ts, htl, R4⟩ := ls_open R3 .here
    walk_at "g"
    refine lcF (wk_list (xs := ts.map V.ref)) (fun i => (b.emptyOnes[i]?).map V.int) R4 (fun acc D => by walk_at "lst") ?_ ?_
    · rintro i x cs acc D H5 hi ha ⟨hx, rfl⟩ R5
      have hl2 : ts.length = (srtP b.emptyPairs).length := by rw [htl, List.length_map]
      rw [List.length_map] at hi
      obtain ⟨t, et⟩ : ∃ t, ts[i]? = some t := ⟨ts[i], by simp [hi]⟩
      obtain ⟨pr, ep⟩ : ∃ pr, (srtP b.emptyPairs)[i]? = some pr := ⟨(srtP b.emptyPairs)[i]'(by omega), by simp [show i < (srtP b.emptyPairs).length by omega]⟩
      have ex : x = .ref t := by rw [List.getElem?_map, et] at hx; exact (Option.some.inj hx).symm
      subst ex
      obtain ⟨A, R6, _⟩ := lblk_at (f := tupO) R5 (by walk_at "sel") et (x := [.int pr.1, .int pr.2]) (by rw [List.getElem?_map, ep]; rfl)
      walk_at "g"
      refine ⟨rfl, ?_⟩
      walk_at "g"
      have hp := (srtP_perm b.emptyPairs).length_eq
      have hq : b.emptyPairs.length ≤ b.stacks.length := by
        unfold BenchM.emptyPairs
        rw [List.length_map]
        exact Nat.le_trans (List.length_filter_le _ _) (by simp)
      exact flt_put (by unfold BenchM.emptyOnes; rw [List.getElem?_map, ep]; rfl) (by omega) ha R5 (by walk_at "sel") (by walk_at "drops")
    · intro D H5 R5
      walk_at "g"
      have e6 : (List.range (ts.map V.ref).length).filterMap (fun i => (b.emptyOnes[i]?).map V.int) = b.emptyOnes.map V.int := by
        have e7 : (ts.map V.ref).length = b.emptyOnes.length := by unfold BenchM.emptyOnes; rw [List.length_map, List.length_map, htl, List.length_map]
        rw [e7, filterMap_get]
      rw [e6] at R5
      exact k D _ ((bench_close hl R5 (by walk_at "sels")).fin (by walk_at "sels") (by walk_at "drops"))
end
section
variable {K : PySem.W.Frag} {vs : List V} {H : Hp} {Q : VK} {E : XK} {L L' : List Cell} {a : Addr}
namespace BenchM
theorem kill_len (s : Int) (st : List (Option Int)) : (kill s st).length = st.length := by unfold kill; split <;> simp
theorem killed_ok {b : BenchM} (s : Int) (ok : b.ok) : (b.killed s).ok := by
  obtain ⟨o1, o2, o3, o4, o5⟩ := ok
  refine ⟨o1, o2, by simp [killed, o3], by simp [killed, o4], fun st hst => ?_⟩
  obtain ⟨st0, h0, rfl⟩ := List.mem_map.mp hst
  rw [kill_len]
  exact o5 st0 h0
end BenchM
theorem idxOf_first {α : Type} [BEq α] [LawfulBEq α] {x : α} : ∀ {l : List α} {m : Nat}, m < l.idxOf x → l[m]? = some x → False
  | [], m, _, h => by simp at h
  | y :: l, m, hm, h => by
    rw [List.idxOf_cons] at hm
    by_cases e : y = x
    · simp [e] at hm
    · have : (y == x) = false := beq_eq_false_iff_ne.mpr e
      rw [this] at hm
      cases m with
      | zero => simp at h; exact e h
      | succ m => exact idxOf_first (l := l) (m := m) (by simpa using hm) (by simpa using h)
theorem take_map_drop {α : Type} (f : α → α) (xs : List α) {i : Nat} {x : α} (h : xs[i]? = some x) : (xs.take i).map f ++ xs.drop i = (xs.take i).map f ++ x :: xs.drop (i + 1) := by
  congr 1
  have := (List.getElem?_eq_some_iff.mp h)
  obtain ⟨h1, h2⟩ := this
  rw [List.drop_eq_getElem_cons h1, h2]
theorem upto_get {α : Type} (f : α → α) (xs : List α) {i : Nat} {x : α} (h : xs[i]? = some x) : ((xs.take i).map f ++ xs.drop i)[i]? = some x := by
  have hi := (List.getElem?_eq_some_iff.mp h).1
  rw [List.getElem?_append_right (by simp; omega)]
  simp [Nat.min_eq_left (Nat.le_of_lt hi), h]
theorem upto_set {α : Type} (f : α → α) (xs : List α) {i : Nat} {x : α} (h : xs[i]? = some x) : ((xs.take i).map f ++ xs.drop i).set i (f x) = (xs.take (i + 1)).map f ++ xs.drop (i + 1) := by
  have hi := (List.getElem?_eq_some_iff.mp h).1
  rw [take_map_drop f xs h, List.set_append_right _ _ (by simp; omega), List.take_add_one, h]
  simp [Nat.min_eq_left (Nat.le_of_lt hi)]
theorem pure_Bench_lay_down (T : TBench K) (h : sp_Bench_lay_down K vs H Q E) : t_Bench_lay_down K (endsOf Q) (start ["self", "sheet", "stack", "block"] vs) H := by
  obtain ⟨pre, F, R, p, b, b', s, rfl, rfl, ok, hb, k⟩ := h.use
  obtain ⟨o1, o2, o3, o4, o5⟩ := id ok
  obtain ⟨dx, aS, aT, ss, hl, R1⟩ := bench_open R .here
  unfold t_Bench_lay_down
  walk_at "g"
  refine forJ (wk_list (xs := ss.map V.ref)) (fun i σ L => (∃ u v, σ = [some (.ref p), some (.int s), u, v]) ∧ L = benchC K { b with stacks := (b.stacks.take i).map (BenchM.kill s) ++ b.stacks.drop i } p dx aS aT ss ++ F) R1 ⟨⟨_, _, rfl⟩, rfl⟩ (fun i σ L _ ⟨_, e⟩ => ?_) ?_ ?_
  · subst e
    walk_at "lst"
  · rintro i x cs σ H2 L hi ⟨⟨u, v, rfl⟩, rfl⟩ ⟨hx, rfl⟩ R2
    rw [List.length_map] at hi
    obtain ⟨a, ea⟩ : ∃ a, ss[i]? = some a := ⟨ss[i], by simp [hi]⟩
    obtain ⟨st, es⟩ : ∃ st, b.stacks[i]? = some st := ⟨b.stacks[i]'(by omega), by simp [show i < b.stacks.length by omega]⟩
    have ex : x = .ref a := by rw [List.getElem?_map, ea] at hx; exact (Option.some.inj hx).symm
    subst ex
    obtain ⟨A, R3, back⟩ := lblk_at (f := stO) R2 (by walk_at "sel") ea (upto_get (BenchM.kill s) b.stacks es)
    walk_at "g"
    refine in_at R3 (xs := st.map optV) (.raw .here) rfl (optV_flat st) ?_
    rw [show inV (.int s) (st.map optV) = decide (some s ∈ st) from inV_opt (some s) st]
    walk_at "g"
    refine ite_d (fun h1 => ?_) fun h1 => ?_
    · walk_at "g"
      have hidx : st.idxOf (some s) < st.length := List.idxOf_lt_length_of_mem h1
      refine index_at R3 (xs := st.map optV) (j := st.idxOf (some s)) (z := .int s) (.raw .here) rfl (optV_flat st) ?_ (by simp [eqV]) ?_ ?_
      · rw [List.getElem?_map, List.getElem?_eq_getElem hidx, List.getElem_idxOf]; rfl
      · intro m z' hm hz
        rw [List.getElem?_map] at hz
        obtain ⟨o, ho, rfl⟩ := Option.map_eq_some_iff.mp hz
        rw [show eqV (optV o) (.int s) = decide (o = some s) from eqV_opt o (some s)]
        refine decide_eq_false fun q => ?_
        subst q
        exact idxOf_first hm ho
      · walk_at "g"
        refine sub_at (j := st.idxOf (some s)) (xs := st.map optV) R3 .here (by rw [ixN_of (by omega) (by rw [List.length_map]; omega)]; simp) fun H4 R4 => ?_
        walk_at "g"
        have e : (st.map optV).set (st.idxOf (some s)) .non = (BenchM.kill s st).map optV := by
          unfold BenchM.kill
          rw [if_pos h1, List.map_set]; rfl
        rw [e] at R4
        have R5 := back _ _ _ _ (BenchM.kill s st) R4 .here .here
        rw [upto_set (BenchM.kill s) b.stacks es] at R5
        walk_at "inv"
        exact inv_s ⟨⟨_, _, rfl⟩, rfl⟩ R5 (by walk_at "sels") (by walk_at "drops")
    · walk_at "g"
      have e : BenchM.kill s st = st := by unfold BenchM.kill; rw [if_neg h1]
      have R5 := back _ _ _ _ (BenchM.kill s st) (by rw [e]; exact R3) .here .here
      rw [upto_set (BenchM.kill s) b.stacks es] at R5
      walk_at "inv"
      exact inv_s ⟨⟨_, _, rfl⟩, rfl⟩ R5 (by walk_at "sels") (by walk_at "drops")
  · rintro σ H2 L R2 ⟨⟨u, v, rfl⟩, rfl⟩
    have e : { b with stacks := (b.stacks.take (ss.map V.ref).length).map (BenchM.kill s) ++ b.stacks.drop (ss.map V.ref).length } = b.killed s := by
      rw [List.length_map, hl]; simp [BenchM.killed]
    rw [e] at R2
    have ok2 := BenchM.killed_ok s ok
    obtain ⟨p1, p2, p3, p4, p5⟩ := id ok2
    have hl2 : ss.length = (b.killed s).stacks.length := by simp [BenchM.killed, hl]
    have R3 : Rel H2 ((p, benchO K (b.killed s)) :: F) := (bench_close hl2 R2 (by walk_at "sels")).fin (cs := [_]) (by walk_at "sels") (by walk_at "drops")
    clear R2
    walk_at "g"
    refine meth_bench (by decide +kernel) R3 .here ?_
    walk_at "g"
    refine SpS.call R3 (by walk_at "sels") ⟨p, _, rfl, rfl, ok2, fun H4 R4 => ?_⟩
    walk_at "g"
    -- the page goes to block j
    have fin : ∀ (j : Nat) (H5 : Hp) (G : List Cell), Rel H5 G → (∃ G', Sel (p, benchO K (b.killed s)) G G' ∧ Drops G' F) → (b.killed s).spot = some j → j < (b.killed s).stacks.length →
        tDrop (tBM K "list" rAppend (tOp (rIxL K) (tFld K (tVar 0) "stacks") (tVar 3)) (tCons (tVar 1) tNil)) (endsOf Q) [some (.ref p), some (.int s), u, some (.int j)] H5 := by
      intro j H5 G R5 ⟨G', sg, dg⟩ hsp hj
      obtain ⟨dx, aS, aT, ss, hl, R6⟩ := bench_open R5 sg
      obtain ⟨a, ea⟩ : ∃ a, ss[j]? = some a := ⟨ss[j], by simp [show j < ss.length by omega]⟩
      obtain ⟨st, es⟩ : ∃ st, (b.killed s).stacks[j]? = some st := ⟨(b.killed s).stacks[j], by simp [hj]⟩
      have hst : (st.length : Int) ≤ (b.killed s).pages := p5 st (List.mem_of_getElem? es)
      walk_at "g"
      refine ixL_at R6 (by walk_at "lst") (v := .ref a) (atI_of (by omega) (by simp [ea])) ?_
      obtain ⟨A, R7, back⟩ := lblk_at (f := stO) R6 (by walk_at "sel") ea es
      refine bm_lst R7 (xs := st.map optV) (.raw .here) ?_
      walk_at "g"
      refine app_at (xs := st.map optV) R7 .here (by rw [List.length_map]; omega) fun H8 R8 => ?_
      walk_at "g"
      have e : st.map optV ++ [V.int s] = (st ++ [some s]).map optV := by simp [optV]
      rw [e] at R8
      have R9 := back _ _ _ _ (st ++ [some s]) R8 .here .here
      have eb : b' = { b.killed s with stacks := (b.killed s).stacks.set j (st ++ [some s]) } := by
        unfold BenchM.layDown at hb
        rw [hsp] at hb
        rw [← Option.some.inj hb]
        show ({ b.killed s with stacks := (b.killed s).stacks.set j ((b.killed s).stacks.getD j [] ++ [some s]) } : BenchM) = _
        rw [BenchM.getD_of es]
      have R10 : Rel H8 ((p, benchO K b') :: G') := by
        rw [eb]
        exact bench_close (b := { b.killed s with stacks := (b.killed s).stacks.set j (st ++ [some s]) }) (ss := ss) (by simp [hl]) R9 (by walk_at "sels")
      exact k _ (Rel.drops (A := [_]) dg R10)
    cases hbg : (b.killed s).begun with
    | some j =>
      have hj : j < (b.killed s).stacks.length := by
        have := List.mem_of_find?_eq_some hbg
        simpa using this
      refine ite_f (by rfl) ?_
      exact fin j H4 _ R4 ⟨_, .here, .refl⟩ (by unfold BenchM.spot; rw [hbg]) hj
    | none =>
      have hsp : (b.killed s).spot = match (b.killed s).emptyOnes with
          | [] => none
          | k :: _ => some k.toNat := by unfold BenchM.spot; rw [hbg] <;> rfl
      cases heo : (b.killed s).emptyOnes with
      | nil =>
        rw [heo] at hsp
        unfold BenchM.layDown at hb
        rw [hsp] at hb; cases hb
      | cons z r =>
        rw [heo] at hsp
        have hz : 0 ≤ z ∧ z < (b.killed s).stacks.length := by
          have : z ∈ (b.killed s).emptyOnes := by rw [heo]; exact List.mem_cons_self
          obtain ⟨q, hq, rfl⟩ := List.mem_map.mp this
          have hq2 := (srtP_perm _).mem_iff.mp hq
          obtain ⟨n, hn, rfl⟩ := List.mem_map.mp hq2
          have := List.mem_range.mp (List.mem_filter.mp hn).1
          exact ⟨by simp, by simpa using this⟩
        refine ite_t (by rfl) ?_
        walk_at "g"
        refine meth_bench (by decide +kernel) R4 .here ?_
        walk_at "g"
        refine SpS.call R4 (by walk_at "sels") ⟨p, _, rfl, rfl, ok2, fun q H5 R5 => ?_⟩
        walk_at "g"
        refine ixL_at R5 (by walk_at "lst") (v := .int z) (atI_of (by omega) (by rw [heo]; rfl)) ?_
        have ez : V.int z = V.int (z.toNat : Nat) := by rw [Int.toNat_of_nonneg hz.1]
        rw [ez]
        exact fin z.toNat H5 _ R5 ⟨_, .there .here, .skip .refl⟩ hsp (by omega)
end
namespace BenchM
theorem emptyOnes_lt {b : BenchM} {z : Int} (h : z ∈ b.emptyOnes) : 0 ≤ z ∧ z < b.stacks.length ∧ b.stacks.getD z.toNat [] = [] := by
  obtain ⟨q, hq, rfl⟩ := List.mem_map.mp h
  have hq2 := (srtP_perm _).mem_iff.mp hq
  obtain ⟨n, hn, rfl⟩ := List.mem_map.mp hq2
  obtain ⟨h1, h2⟩ := List.mem_filter.mp hn
  have := List.mem_range.mp h1
  refine ⟨by simp, by simpa using this, ?_⟩
  show b.stacks.getD ((n : Int)).toNat [] = []
  rw [Int.toNat_natCast]
  exact List.isEmpty_iff.mp h2
theorem spot_lt {b : BenchM} {j : Nat} (ok : b.ok) (h : b.spot = some j) : j < b.stacks.length ∧ ((b.stacks.getD j []).length : Int) < b.pages := by
  unfold spot at h
  split at h
  · rename_i k hk
    cases h
    have h1 := List.mem_of_find?_eq_some hk
    have h2 := List.find?_some hk
    refine ⟨by simpa using h1, ?_⟩
    unfold partly at h2
    simp only [Bool.and_eq_true, decide_eq_true_eq] at h2
    exact h2.2
  · split at h
    · cases h
    · rename_i k r hk
      cases h
      obtain ⟨h1, h2, h3⟩ := emptyOnes_lt (b := b) (z := k) (by rw [hk]; exact List.mem_cons_self)
      refine ⟨by omega, ?_⟩
      rw [h3]
      have := ok.1
      simp; omega
theorem layDown_ok {b b' : BenchM} {s : Int} (ok : b.ok) (h : b.layDown s = some b') : b'.ok ∧ b'.stacks.length = b.stacks.length ∧ b'.pages = b.pages ∧ b'.times = b.times := by
  unfold layDown at h
  obtain ⟨j, hj, rfl⟩ := Option.map_eq_some_iff.mp h
  have ok2 := killed_ok s ok
  obtain ⟨h1, h2⟩ := spot_lt ok2 hj
  obtain ⟨o1, o2, o3, o4, o5⟩ := ok2
  refine ⟨⟨o1, o2, by simp [o3], by simp [o4], fun st hst => ?_⟩, by simp [killed], rfl, rfl⟩
  rcases List.mem_or_eq_of_mem_set hst with hst | rfl
  · exact o5 st hst
  · simp only [List.length_append, List.length_singleton]
    have : (b.killed s).pages = b.pages := rfl
    show ((((b.killed s).stacks.getD j []).length + 1 : Nat) : Int) ≤ (b.killed s).pages
    omega
theorem layAll_ok : ∀ {l : List Int} {b b' : BenchM}, b.ok → layAll l b = some b' → b'.ok ∧ b'.stacks.length = b.stacks.length ∧ b'.pages = b.pages ∧ b'.times = b.times
  | [], b, b', ok, h => by cases h; exact ⟨ok, rfl, rfl, rfl⟩
  | s :: r, b, b', ok, h => by
    obtain ⟨b1, h1, h2⟩ := Option.bind_eq_some_iff.mp h
    obtain ⟨a1, a2, a3, a4⟩ := layDown_ok ok h1
    obtain ⟨c1, c2, c3, c4⟩ := layAll_ok a1 h2
    exact ⟨c1, c2.trans a2, c3.trans a3, c4.trans a4⟩
theorem clearOut_ok {b b' : BenchM} {j : Nat} (ok : b.ok) (h : b.clearOut j = some b') : b'.ok ∧ b'.stacks.length = b.stacks.length ∧ b'.pages = b.pages := by
  obtain ⟨b1, h1, rfl⟩ := Option.map_eq_some_iff.mp h
  obtain ⟨⟨o1, o2, o3, o4, o5⟩, a2, a3, a4⟩ := layAll_ok ok h1
  refine ⟨⟨o1, o2, by simp [o3], by simp [o4], fun st hst => ?_⟩, by simp [a2], a3⟩
  rcases List.mem_or_eq_of_mem_set hst with hst | rfl
  · exact o5 st hst
  · show (([] : List (Option Int)).length : Int) ≤ b1.pages
    simp; omega
theorem layAll_snoc : ∀ {l : List Int} {s : Int} {b : BenchM}, layAll (l ++ [s]) b = (layAll l b).bind fun b1 => b1.layDown s
  | [], s, b => by
    show (b.layDown s).bind (layAll []) = b.layDown s
    cases b.layDown s <;> rfl
  | t :: l, s, b => by
    show (b.layDown t).bind (layAll (l ++ [s])) = ((b.layDown t).bind (layAll l)).bind _
    cases b.layDown t with
    | none => rfl
    | some b1 => exact layAll_snoc
theorem layAll_take {l : List Int} {b b' : BenchM} (h : layAll l b = some b') (i : Nat) : ∃ b1, layAll (l.take i) b = some b1 ∧ layAll (l.drop i) b1 = some b' := by
  induction l generalizing b i with
  | nil => exact ⟨b, by simp [layAll], by simpa using h⟩
  | cons s r ih =>
    cases i with
    | zero => exact ⟨b, rfl, h⟩
    | succ i =>
      obtain ⟨b1, h1, h2⟩ := Option.bind_eq_some_iff.mp h
      obtain ⟨b2, h3, h4⟩ := ih h2 i
      exact ⟨b2, by show (b.layDown s).bind (layAll (r.take i)) = _; rw [h1]; exact h3, h4⟩
end BenchM
theorem lcells_at2 {α : Type} {f : α → BO} : ∀ {ss : List Addr} {xs : List α} {i : Nat} {a : Addr} {x : α}, ss[i]? = some a → xs[i]? = some x → ∃ A B, lcells f ss xs = A ++ (a, f x) :: B ∧ ∀ q y, lcells f (ss.set i q) (xs.set i y) = A ++ (q, f y) :: B
  | [], _, _, _, _, h, _ => by simp at h
  | _ :: _, [], _, _, _, _, h => by simp at h
  | s :: ss, x :: xs, 0, a, y, h1, h2 => by
    simp at h1 h2; subst h1 h2
    exact ⟨[], lcells f ss xs, rfl, fun _ _ => rfl⟩
  | s :: ss, x :: xs, i + 1, a, y, h1, h2 => by
    obtain ⟨A, B, e1, e2⟩ := lcells_at2 (f := f) (ss := ss) (xs := xs) (i := i) (by simpa using h1) (by simpa using h2)
    exact ⟨(s, f x) :: A, B, by show (s, f x) :: lcells f ss xs = _; rw [e1]; rfl, fun q y => by show (s, f x) :: lcells f (ss.set i q) (xs.set i y) = _; rw [e2]; rfl⟩
theorem lblk_repl {α : Type} {f : α → BO} {H : Hp} {ss : List Addr} {xs : List α} {i : Nat} {a q : Addr} {x y : α} {L L1 L2 : List Cell} (R : Rel H L) (s1 : Sel (lblk f ss xs) L L1) (s2 : Sel (q, f y) L1 L2) (h1 : ss[i]? = some a) (h2 : xs[i]? = some x) : Rel H (lblk f (ss.set i q) (xs.set i y) :: L2) := by
  obtain ⟨A, B, e1, e2⟩ := lcells_at2 (f := f) h1 h2
  have R1 := blk_open (R.sel s1)
  rw [e1, List.append_assoc] at R1
  have R2 : Rel H ((A ++ B) ++ L1) := by
    have := R1.front.drop
    rw [List.append_assoc]; exact this
  have R3 := R2.sel (c := (q, f y)) (Sel.appR s2)
  refine blk_close ?_
  rw [e2, List.append_assoc]
  rw [List.append_assoc] at R3
  exact Rel.toFront R3
section
variable {K : PySem.W.Frag} {vs : List V} {H : Hp} {Q : VK} {E : XK} {L L' : List Cell} {a : Addr}
theorem pure_Bench_clear_out (T : TBench K) (h : sp_Bench_clear_out K vs H Q E) : t_Bench_clear_out K (endsOf Q) (start ["self", "block", "moved", "sheet"] vs) H := by
  obtain ⟨pre, F, R, p, b, b', j, rfl, rfl, ok, hj, hb, k⟩ := h.use
  obtain ⟨o1, o2, o3, o4, o5⟩ := id ok
  obtain ⟨dx, aS, aT, ss, hl, R1⟩ := bench_open R .here
  obtain ⟨a, ea⟩ : ∃ a, ss[j]? = some a := ⟨ss[j], by simp [show j < ss.length by omega]⟩
  obtain ⟨st, es⟩ : ∃ st, b.stacks[j]? = some st := ⟨b.stacks[j], by simp [hj]⟩
  have eD : b.stacks.getD j [] = st := BenchM.getD_of es
  have hst : (st.length : Int) ≤ b.pages := o5 st (List.mem_of_getElem? es)
  unfold t_Bench_clear_out
  walk_at "g"
  refine ixL_at R1 (by walk_at "lst") (v := .ref a) (atI_of (by omega) (by simp [ea])) ?_
  obtain ⟨A, R2, back⟩ := lblk_at (f := stO) R1 (by walk_at "sel") ea es
  refine iList_at R2 (xs := st.map optV) (.raw .here) ?_
  refine lcF (wk_list (xs := st.map optV)) (fun i => ((st[i]?).bind id).map V.int) R2 (fun acc D => .raw (.there .here)) ?_ ?_
  · rintro i x cs acc D H5 hi ha ⟨hx, rfl⟩ R5
    rw [List.length_map] at hi
    obtain ⟨o, eo⟩ : ∃ o, st[i]? = some o := ⟨st[i], by simp [hi]⟩
    have ex : x = optV o := by rw [List.getElem?_map, eo] at hx; exact (Option.some.inj hx).symm
    subst ex
    walk_at "g"
    refine ⟨rfl, ?_⟩
    walk_at "g"
    refine ite_nd (fun h1 => ?_) fun h1 => ?_
    · walk_at "g"
      cases o with
      | none => exact absurd rfl h1
      | some z => exact flt_put (by rw [eo]; rfl) (by omega) ha R5 (by walk_at "sel") (by walk_at "drops")
    · cases o with
      | none => exact flt_not (by rw [eo]; rfl) ha R5 (by walk_at "sel") (by walk_at "drops")
      | some z => cases h1
  · intro D H5 R5
    have e : (List.range (st.map optV).length).filterMap (fun i => ((st[i]?).bind id).map V.int) = (b.moved j).map V.int := by
      unfold BenchM.moved
      rw [eD, List.length_map]
      clear eD es R5 hst R2 back
      induction st with
      | nil => rfl
      | cons o l ih =>
        rw [List.length_cons, List.range_succ_eq_map, List.filterMap_cons, List.filterMap_map]
        cases o <;> (simp [Function.comp_def] at ih ⊢; exact ih)
    rw [e] at R5
    have R6 := back _ _ _ _ st R5 (by walk_at "sel") (by walk_at "sel")
    rw [set_self es] at R6
    have R7 : Rel H5 ([(D, raw (.lst ((b.moved j).map V.int))), (p, benchO K b)] ++ F) := (bench_close hl R6 (by walk_at "sels")).fin (by walk_at "sels") (by walk_at "drops")
    clear R6 R5
    obtain ⟨b1, hb1, hb2⟩ := Option.map_eq_some_iff.mp hb
    walk_at "g"
    refine forJ (wk_list (xs := (b.moved j).map V.int)) (fun i σ L => ∃ u b2, σ = [some (.ref p), some (.int j), some (.ref D), u] ∧ BenchM.layAll ((b.moved j).take i) b = some b2 ∧ L = [(D, raw (.lst ((b.moved j).map V.int))), (p, benchO K b2)] ++ F) R7 ⟨_, b, rfl, rfl, rfl⟩ (fun i σ L _ ⟨_, _, _, _, e⟩ => ?_) ?_ ?_
    · subst e
      walk_at "lst"
    · rintro i x cs σ H2 L hi ⟨u, b2, rfl, hb3, rfl⟩ ⟨hx, rfl⟩ R8
      rw [List.length_map] at hi
      obtain ⟨z, ez⟩ : ∃ z, (b.moved j)[i]? = some z := ⟨(b.moved j)[i], by simp [hi]⟩
      have ex : x = .int z := by rw [List.getElem?_map, ez] at hx; exact (Option.some.inj hx).symm
      subst ex
      obtain ⟨b3, h3, h4⟩ := BenchM.layAll_take hb1 (i + 1)
      have h5 := h3
      rw [List.take_add_one, ez] at h5
      have h6 : BenchM.layAll ((b.moved j).take i ++ [z]) b = some b3 := h5
      rw [BenchM.layAll_snoc, hb3] at h6
      have ok2 := (BenchM.layAll_ok ok hb3).1
      walk_at "g"
      refine meth_bench (by decide +kernel) R8 (by walk_at "sel") ?_
      walk_at "g"
      refine SpS.call R8 (by walk_at "sels") ⟨p, b2, b3, z, rfl, rfl, ok2, h6, fun H9 R9 => ?_⟩
      walk_at "g"
      walk_at "inv"
      exact inv_s ⟨_, b3, rfl, h3, rfl⟩ R9 (by walk_at "sels") (by walk_at "drops")
    · rintro σ H2 L R8 ⟨u, b2, rfl, hb3, rfl⟩
      rw [List.length_map, List.take_length, hb1] at hb3
      cases hb3
      obtain ⟨ok1, l1, p1, t1⟩ := BenchM.layAll_ok ok hb1
      obtain ⟨dx, aS, aT, ss, hl, R9⟩ := bench_open R8 (by walk_at "sel")
      walk_at "g"
      refine lst_new R9 (by simp) fun q H10 R10 => ?_
      walk_at "g"
      refine sub_at (j := j) R10 (by walk_at "sel") (by rw [ixN_of (by omega) (by rw [List.length_map]; omega)]; simp) fun H11 R11 => ?_
      walk_at "g"
      refine aug_at (j := j) (m := b1.times.getD j 0) R11 (by walk_at "sel") (by rw [ixN_of (by omega) (by rw [List.length_map, t1, o3]; omega)]; simp) ?_ fun H12 R12 => ?_
      · rw [List.getElem?_map]
        have : j < b1.times.length := by rw [t1]; omega
        simp [List.getD_eq_getElem?_getD, this]
      walk_at "g"
      obtain ⟨a1, ea1⟩ : ∃ a, ss[j]? = some a := ⟨ss[j]'(by omega), by simp [show j < ss.length by omega]⟩
      obtain ⟨st1, es1⟩ : ∃ st, b1.stacks[j]? = some st := ⟨b1.stacks[j]'(by omega), by simp [show j < b1.stacks.length by omega]⟩
      have R13 := lblk_repl (f := stO) (q := q) (y := []) R12 (by walk_at "sel") (by walk_at "sel") ea1 es1
      have e1 : (ss.map V.ref).set j (.ref q) = (ss.set j q).map V.ref := by rw [List.map_set]
      subst hb2
      have e2 : (b1.times.map V.int).set j (.int (b1.times.getD j 0 + 1)) = (b1.times.set j (b1.times.getD j 0 + 1)).map V.int := by rw [List.map_set]
      rw [e1, e2] at R13
      have R14 := bench_close (b := { b1 with stacks := b1.stacks.set j [], times := b1.times.set j (b1.times.getD j 0 + 1) }) (p := p) (dx := dx) (aS := aS) (aT := aT) (ss := ss.set j q) (by simp [hl]) R13 (by walk_at "sels")
      rw [List.length_map]
      exact k _ (R14.fin (by walk_at "sels") (by walk_at "drops"))
end
/-! ### races -/
def unlike (row : List Int) : Nat := (PyProof.Rows.firstMet (fun i => row.getD i 0) row.length).length
def sp_need_sheets (K : PySem.W.Frag) : Sp := SpS fun vs pre k => ∃ (r : Addr) (row : List Int) (many : Int), vs = [.ref r, .int many] ∧ pre = [(r, seqO K (row.map V.int))] ∧ row.length ≤ 4000 ∧ (∀ s ∈ row, 0 ≤ s ∧ s ≤ 63) ∧ (unlike row : Int) ≤ many ∧ k .non [(r, seqO K (row.map V.int))]
structure RaceOk (blocks pages : Int) (row : List Int) (more : Int) : Prop where
  b : 2 ≤ blocks ∧ blocks ≤ 4
  p : 1 ≤ pages ∧ pages ≤ 3
  m : 3 ≤ (blocks - 1) * pages
  l : row.length + more ≤ (blocks - 1) * pages + 6
  s : ∀ s ∈ row, 0 ≤ s ∧ s ≤ 63
  u : (unlike row : Int) ≤ (blocks - 1) * pages - 2
def sp_need_race (K : PySem.W.Frag) : Sp := SpS fun vs pre k => ∃ (r : Addr) (row : List Int) (blocks pages more : Int), vs = [.int blocks, .int pages, .ref r, .int more] ∧ pre = [(r, seqO K (row.map V.int))] ∧ row.length ≤ 4000 ∧ RaceOk blocks pages row more ∧ k .non [(r, seqO K (row.map V.int))]
def sp_least_from (K : PySem.W.Frag) (n : Nat) : Sp := SpS fun vs pre k => ∃ (p r : Addr) (b : BenchM) (row : List Int) (m : Int) (cs : List Int), vs = [.ref p, .ref r] ∧ pre = [(p, benchO K b), (r, seqO K (row.map V.int))] ∧ b.ok ∧ row.length ≤ 1000 ∧ BenchM.least n b row = some (m, cs) ∧
  ∀ t l, k (.ref t) [(t, tupO [.int m, .ref l]), (l, raw (.lst (cs.map V.int))), (r, seqO K (row.map V.int))]
/-- need_sheets: row 0, many 1, sheet 2 -/
def t_need_sheets (K : PySem.W.Frag) : TS := tSeq (tFor (iList K (tVar 0)) (gName 2) (tIfS (tNot (tB (tCall (sp_is_within K) [] E0 (tCons (tVar 2) (tCons (tC (.int (0))) (tCons (tC (.int (63))) (tNil))))))) (tNever) (tNext))) (tIfS (tTest (tOp rGtI (tLenSetD K (tVar 0)) (tVar 1))) (tNever) (tNext))
/-- need_race: blocks 0, pages 1, row 2, more 3, most 4 -/
def t_need_race (K : PySem.W.Frag) : TS := tSeq (tIfS (tOr (tNot (tB (tCall (sp_is_within K) [] E0 (tCons (tVar 0) (tCons (tC (.int (2))) (tCons (tC (.int (4))) (tNil))))))) (tNot (tB (tCall (sp_is_within K) [] E0 (tCons (tVar 1) (tCons (tC (.int (1))) (tCons (tC (.int (3))) (tNil)))))))) (tNever) (tNext)) (tSeq (tAsg (tOp rMulI (tOp rSubI (tVar 0) (tC (.int (1)))) (tVar 1)) (gName 4)) (tSeq (tIfS (tOr (tTest (tOp rLtI (tVar 4) (tC (.int (3))))) (tTest (tOp rGtI (tOp rAddI (tCB (rLenV K) (tCons (tVar 2) (tNil))) (tVar 3)) (tOp rAddI (tVar 4) (tC (.int (6))))))) (tNever) (tNext)) (tDrop (tCall (sp_need_sheets K) [] E0 (tCons (tVar 2) (tCons (tOp rSubI (tVar 4) (tC (.int (2)))) (tNil)))))))
/-- least_from: bench 0, row 1, at 2, best 3, block 4, other 5, moves 6, rest 7 -/
def t_least_from (K : PySem.W.Frag) (n : Nat) : TS := tSeq (tAsg (tC (.int (0))) (gName 2)) (tSeq (tWhile (tAnd (tTest (tOp rLtI (tVar 2) (tCB (rLenV K) (tCons (tVar 1) (tNil))))) (tB (tMeth (He.ga K "Bench") "is_ready" (sp_Bench_is_ready K) [] E0 (tVar 0) tNil))) (tSeq (tDrop (tMeth (He.ga K "Bench") "lay_down" (sp_Bench_lay_down K) [] E0 (tVar 0) (tCons (tOp (rIxL K) (tVar 1) (tVar 2)) (tNil)))) (tAug 2 (tC (.int (1))) (ipI fun i j => i + j)))) (tSeq (tIfS (tTest (tOp rEq (tVar 2) (tCB (rLenV K) (tCons (tVar 1) (tNil))))) (tRet (tTup (tCons (tC (.int (0))) (tCons (tLst (tNil)) (tNil))))) (tNext)) (tSeq (tAsg (tC .non) (gName 3)) (tSeq (tFor (iList K (tMeth (He.ga K "Bench") "choices" (sp_Bench_choices K) [] E0 (tVar 0) tNil)) (gName 4) (tSeq (tAsg (tMeth (He.ga K "Bench") "copied" (sp_Bench_copied K) [] E0 (tVar 0) tNil) (gName 5)) (tSeq (tAsg (tMeth (He.ga K "Bench") "clear_out" (sp_Bench_clear_out K) [] E0 (tVar 5) (tCons (tVar 4) (tNil))) (gName 6)) (tSeq (tAsg (tCall (sp_least_from K n) [] E0 (tCons (tVar 5) (tCons (tSl (rSlL K) (tVar 1) (tPart (tVar 2)) (tNoPart)) (tNil)))) (gName 7)) (tIfS (tOr (tTest (tOp rIsN (tVar 3) (tC .non))) (tTest (tOp rLtI (tOp rAddI (tVar 6) (tOp (rIxT K) (tVar 7) (tC (.int (0))))) (tOp (rIxT K) (tVar 3) (tC (.int (0))))))) (tAsg (tTup (tCons (tOp rAddI (tVar 6) (tOp (rIxT K) (tVar 7) (tC (.int (0))))) (tCons (tOp rCat (tLst (tCons (tVar 4) (tNil))) (tOp (rIxT K) (tVar 7) (tC (.int (1))))) (tNil)))) (gName 3)) (tNext)))))) (tRet (tVar 3))))))
section
variable {K : PySem.W.Frag} {vs : List V} {H : Hp} {Q : VK} {E : XK} {L L' : List Cell} {a : Addr}
theorem lenSet_at {σ : L2.St} {te : TE} : tLenSetD K te σ H Q = te σ H fun x H1 => ∃ (l : Addr) (ns : List Int), x = .ref l ∧ SqL K H1 l (ns.map V.int) ∧ ns.length ≤ 4000 ∧ Q (.int (unlike ns : Nat)) H1 := rfl
theorem pure_need_sheets (h : sp_need_sheets K vs H Q E) : t_need_sheets K (endsOf Q) (start ["row", "many", "sheet"] vs) H := by
  obtain ⟨pre, F, R, r, row, many, rfl, rfl, hl, hs, hu, k⟩ := h.use
  unfold t_need_sheets
  walk_at "g"
  refine forJ (wk_list (xs := row.map V.int)) (fun i σ L => (∃ u, σ = [some (.ref r), some (.int many), u]) ∧ L = [(r, seqO K (row.map V.int))] ++ F) R ⟨⟨_, rfl⟩, rfl⟩ (fun i σ L _ ⟨_, e⟩ => ?_) ?_ ?_
  · subst e
    walk_at "lst"
  · rintro i x cs σ H2 L hi ⟨⟨u, rfl⟩, rfl⟩ ⟨hx, rfl⟩ R2
    obtain ⟨z, hz, rfl⟩ := List.mem_map.mp (List.mem_of_getElem? hx)
    obtain ⟨z1, z2⟩ := hs z hz
    walk_at "g"
    refine SpS.call R2 .nil ⟨_, _, _, rfl, rfl, rfl, fun H3 R3 => ?_⟩
    have e : withinV (.int z) 0 63 = true := by simp [withinV, z1, z2]
    rw [e]
    walk_at "g"
    refine ite_f rfl ?_
    walk_at "g"
    walk_at "inv"
    exact inv_s ⟨⟨_, rfl⟩, rfl⟩ R3 (by walk_at "sels") (by walk_at "drops")
  · rintro σ H2 L R2 ⟨⟨u, rfl⟩, rfl⟩
    walk_at "g"
    rw [lenSet_at]
    walk_at "g"
    refine ⟨r, row, rfl, (show Lst K r _ _ by walk_at "lst").sq R2, hl, ?_⟩
    walk_at "g"
    refine ite_d (fun h1 => absurd hu (by omega)) fun _ => ?_
    walk_at "g"
    exact k _ (R2.fin (by walk_at "sels") (by walk_at "drops"))
theorem pure_need_race (h : sp_need_race K vs H Q E) : t_need_race K (endsOf Q) (start ["blocks", "pages", "row", "more", "most"] vs) H := by
  obtain ⟨pre, F, R, r, row, blocks, pages, more, rfl, rfl, hl, rc, k⟩ := h.use
  obtain ⟨⟨b1, b2⟩, ⟨p1, p2⟩, rm, rl, rs, ru⟩ := id rc
  unfold t_need_race
  walk_at "g"
  refine SpS.call R .nil ⟨_, _, _, rfl, rfl, rfl, fun H2 R2 => ?_⟩
  rw [show withinV (.int blocks) 2 4 = true by simp [withinV, b1, b2]]
  walk_at "g"
  refine ite_f rfl ?_
  walk_at "g"
  refine SpS.call R2 .nil ⟨_, _, _, rfl, rfl, rfl, fun H3 R3 => ?_⟩
  rw [show withinV (.int pages) 1 3 = true by simp [withinV, p1, p2]]
  walk_at "g"
  refine ite_f rfl ?_
  walk_at "g"
  refine go_I (.inl ⟨by omega, by omega⟩) ?_
  walk_at "g"
  refine ite_d (fun h1 => absurd rm (by omega)) fun _ => ?_
  walk_at "g"
  rw [List.length_map]
  refine ite_d (fun h1 => absurd rl (by omega)) fun _ => ?_
  walk_at "g"
  refine SpS.call R3 (by walk_at "sels") ⟨r, row, _, rfl, rfl, hl, rs, ru, fun H4 R4 => ?_⟩
  walk_at "g"
  exact k _ (R4.fin (by walk_at "sels") (by walk_at "drops"))
namespace BenchM
theorem bestOf_len {rec : BenchM → List Int → Option (Int × List Int)} {n : Nat} (hr : ∀ b row m cs, rec b row = some (m, cs) → cs.length ≤ n) {b : BenchM} {row : List Int} : ∀ {ks : List Nat} {best res : Option (Int × List Int)}, (∀ m cs, best = some (m, cs) → cs.length ≤ n + 1) → bestOf rec b row ks best = some res → ∀ m cs, res = some (m, cs) → cs.length ≤ n + 1
  | [], best, res, hb, h => by cases h; exact hb
  | k :: ks, best, res, hb, h => by
    obtain ⟨b1, h1, h⟩ := Option.bind_eq_some_iff.mp h
    obtain ⟨⟨m2, cs2⟩, h2, h⟩ := Option.bind_eq_some_iff.mp h
    refine bestOf_len hr (fun m cs e => ?_) h
    have h3 := hr _ _ _ _ h2
    unfold better at e
    split at e
    · cases e; simp; omega
    · split at e
      · cases e; simp; omega
      · cases e; exact hb _ _ rfl
theorem least_len : ∀ {n : Nat} {b : BenchM} {row : List Int} {m : Int} {cs : List Int}, least n b row = some (m, cs) → cs.length ≤ n
  | 0, _, _, _, _, h => by cases h
  | n + 1, b, row, m, cs, h => by
    unfold least at h
    obtain ⟨⟨rest, be⟩, _, h⟩ := Option.bind_eq_some_iff.mp h
    cases rest with
    | nil => cases h; simp
    | cons s r =>
      obtain ⟨res, h1, h2⟩ := Option.bind_eq_some_iff.mp h
      exact bestOf_len (fun _ _ _ _ q => least_len q) (fun _ _ e => by cases e) h1 _ _ h2
end BenchM
/-- what `best` holds -/
def bestV (t l : Addr) : Option (Int × List Int) → V × List Cell
  | none => (.non, [])
  | some (m, cs) => (.ref t, [(t, tupO [.int m, .ref l]), (l, raw (.lst (cs.map V.int)))])
theorem pure_least_from {n : Nat} (hn : n ≤ 1000) (T : TBench K) (h : sp_least_from K (n + 1) vs H Q E) : t_least_from K n (endsOf Q) (start ["bench", "row", "at", "best", "block", "other", "moves", "rest"] vs) H := by
  obtain ⟨pre, F, R, p, r, b, row, m, cs, rfl, rfl, ok, hrl, hle, k⟩ := h.use
  unfold BenchM.least at hle
  obtain ⟨⟨rest, be⟩, hrun, hle⟩ := Option.bind_eq_some_iff.mp hle
  unfold t_least_from
  walk_at "g"
  refine while_s (fun μ σ L => ∃ (i : Nat) (bi : BenchM), σ = [some (.ref p), some (.ref r), some (.int i), none, none, none, none, none] ∧ i + μ = row.length ∧ bi.ok ∧ BenchM.run (row.drop i) bi = some (rest, be) ∧ L = [(p, benchO K bi), (r, seqO K (row.map V.int))] ++ F) row.length R ⟨0, b, rfl, by omega, ok, hrun, rfl⟩ ?_
  rintro μ σ H2 L R2 ⟨i, bi, rfl, hi, oki, hri, rfl⟩
  -- what follows the loop
  have aft : ∀ (H3 : Hp), Rel H3 ([(p, benchO K be), (r, seqO K (row.map V.int))] ++ F) → be.ok → rest = row.drop i → (i = row.length ∨ (i < row.length ∧ be.isReady = false)) →
      tSeq (tIfS (tTest (tOp rEq (tVar 2) (tCB (rLenV K) (tCons (tVar 1) (tNil))))) (tRet (tTup (tCons (tC (.int (0))) (tCons (tLst (tNil)) (tNil))))) (tNext)) (tSeq (tAsg (tC .non) (gName 3)) (tSeq (tFor (iList K (tMeth (He.ga K "Bench") "choices" (sp_Bench_choices K) [] E0 (tVar 0) tNil)) (gName 4) (tSeq (tAsg (tMeth (He.ga K "Bench") "copied" (sp_Bench_copied K) [] E0 (tVar 0) tNil) (gName 5)) (tSeq (tAsg (tMeth (He.ga K "Bench") "clear_out" (sp_Bench_clear_out K) [] E0 (tVar 5) (tCons (tVar 4) (tNil))) (gName 6)) (tSeq (tAsg (tCall (sp_least_from K n) [] E0 (tCons (tVar 5) (tCons (tSl (rSlL K) (tVar 1) (tPart (tVar 2)) (tNoPart)) (tNil)))) (gName 7)) (tIfS (tOr (tTest (tOp rIsN (tVar 3) (tC .non))) (tTest (tOp rLtI (tOp rAddI (tVar 6) (tOp (rIxT K) (tVar 7) (tC (.int (0))))) (tOp (rIxT K) (tVar 3) (tC (.int (0))))))) (tAsg (tTup (tCons (tOp rAddI (tVar 6) (tOp (rIxT K) (tVar 7) (tC (.int (0))))) (tCons (tOp rCat (tLst (tCons (tVar 4) (tNil))) (tOp (rIxT K) (tVar 7) (tC (.int (1))))) (tNil)))) (gName 3)) (tNext)))))) (tRet (tVar 3)))) (endsOf Q)
        [some (.ref p), some (.ref r), some (.int i), none, none, none, none, none] H3 := by
    intro H3 R3 ok3 hrest hcase
    walk_at "g"
    refine go_eq rfl ?_
    walk_at "g"
    rw [List.length_map]
    refine ite_d (fun h1 => ?_) fun h1 => ?_
    · have h1' : i = row.length := by have := V.int.inj h1; omega
      rw [h1', List.drop_length] at hrest
      subst hrest
      have hle' : (some (0, []) : Option (Int × List Int)) = some (m, cs) := hle
      cases hle'
      walk_at "g"
      refine lst_new R3 (by simp) fun l H4 R4 => ?_
      walk_at "g"
      refine tup_new R4 (by simp) fun t H5 R5 => ?_
      exact k t l _ (R5.fin (by walk_at "sels") (by walk_at "drops"))
    · have h1' : i ≠ row.length := fun q => h1 (by rw [q])
      obtain ⟨s, rs, ers⟩ : ∃ s rs, row.drop i = s :: rs := by
        cases h : row.drop i with
        | nil => have := congrArg List.length h; simp at this; omega
        | cons s rs => exact ⟨s, rs, rfl⟩
      rw [ers] at hrest
      subst hrest
      obtain ⟨res, hbo, hres⟩ := Option.bind_eq_some_iff.mp hle
      subst hres
      walk_at "g"
      refine meth_bench (by decide +kernel) R3 (by walk_at "sel") ?_
      walk_at "g"
      refine SpS.call R3 (by walk_at "sels") ⟨p, be, rfl, rfl, ok3, fun q H4 R4 => ?_⟩
      refine iList_at R4 (xs := be.choices.map fun (k : Nat) => V.int k) (.raw .here) ?_
      have R4b : Rel H4 ([(q, raw (.lst (be.choices.map fun (k : Nat) => V.int k))), (p, benchO K be), (r, seqO K (row.map V.int)), blk []] ++ F) := (blk_close (A := []) R4).fin (by walk_at "sels") (by walk_at "drops")
      refine forJ (wk_list (xs := be.choices.map fun (k : Nat) => V.int k)) (fun i2 σ L => ∃ best t l u1 u2 u3 u4, σ = [some (.ref p), some (.ref r), some (.int i), some (bestV t l best).1, u1, u2, u3, u4] ∧ BenchM.bestOf (BenchM.least n) be (s :: rs) (be.choices.drop i2) best = some (some (m, cs)) ∧
          L = [(q, raw (.lst (be.choices.map fun (k : Nat) => V.int k))), (p, benchO K be), (r, seqO K (row.map V.int)), blk (bestV t l best).2] ++ F) R4b ⟨none, 0, 0, _, _, _, _, rfl, hbo, rfl⟩ (fun i2 σ L _ ⟨_, _, _, _, _, _, _, _, _, e⟩ => ?_) ?_ ?_
      · subst e
        walk_at "lst"
      · rintro i2 x cs' σ H5 L hi2 ⟨best, t, l, u1, u2, u3, u4, rfl, hb, rfl⟩ ⟨hx, rfl⟩ R5
        rw [List.length_map] at hi2
        obtain ⟨kk, ek⟩ : ∃ kk, be.choices[i2]? = some kk := ⟨be.choices[i2], by simp [hi2]⟩
        have ex : x = .int kk := by rw [List.getElem?_map, ek] at hx; exact (Option.some.inj hx).symm
        subst ex
        have hkk : kk < be.stacks.length := by
          have := List.mem_of_getElem? ek
          exact List.mem_range.mp (List.mem_filter.mp this).1
        have ed : be.choices.drop i2 = kk :: be.choices.drop (i2 + 1) := by
          obtain ⟨h3, h4⟩ := List.getElem?_eq_some_iff.mp ek
          rw [List.drop_eq_getElem_cons h3, h4]
        rw [ed] at hb
        obtain ⟨b1, hb1, hb⟩ := Option.bind_eq_some_iff.mp hb
        obtain ⟨⟨m2, cs2⟩, hr2, hb⟩ := Option.bind_eq_some_iff.mp hb
        obtain ⟨ok4, _, _⟩ := BenchM.clearOut_ok ok3 hb1
        walk_at "g"
        refine meth_bench (by decide +kernel) R5 (by walk_at "sel") ?_
        walk_at "g"
        refine SpS.call R5 (by walk_at "sels") ⟨p, be, rfl, rfl, ok3, fun o H6 R6 => ?_⟩
        walk_at "g"
        refine meth_bench (by decide +kernel) R6 .here ?_
        walk_at "g"
        refine SpS.call R6 (by walk_at "sels") ⟨o, be, b1, kk, rfl, rfl, ok3, hkk, hb1, fun H7 R7 => ?_⟩
        walk_at "g"
        refine slL_at R7 (xs := row.map V.int) (by walk_at "lst") fun rr H8 R8 => ?_
        rw [cutV_drop, ← List.map_drop, ers] at R8
        walk_at "g"
        refine SpS.call (R8.asSeq (K := K)) (by walk_at "sels") ⟨o, rr, b1, s :: rs, m2, cs2, rfl, rfl, ok4, by have := congrArg List.length ers; simp at this ⊢; omega, hr2, fun t2 l2 H9 R9 => ?_⟩
        walk_at "g"
        -- a new best
        have new : ∀ (H10 : Hp), Rel H10 ([(t2, tupO [.int m2, .ref l2]), (l2, raw (.lst (cs2.map V.int))), (q, raw (.lst (be.choices.map fun (k : Nat) => V.int k))), (p, benchO K be), (r, seqO K (row.map V.int))] ++ F) →
            BenchM.better best ((be.moved kk).length + m2) ((kk : Int) :: cs2) = some ((be.moved kk).length + m2, (kk : Int) :: cs2) →
            tAsg (tTup (tCons (tOp rAddI (tVar 6) (tOp (rIxT K) (tVar 7) (tC (.int (0))))) (tCons (tOp rCat (tLst (tCons (tVar 4) (tNil))) (tOp (rIxT K) (tVar 7) (tC (.int (1))))) (tNil)))) (gName 3)
              { nx := InvS (fun σ L => ∃ best t l u1 u2 u3 u4, σ = [some (.ref p), some (.ref r), some (.int i), some (bestV t l best).1, u1, u2, u3, u4] ∧ BenchM.bestOf (BenchM.least n) be (s :: rs) (be.choices.drop (i2 + 1)) best = some (some (m, cs)) ∧
                  L = [(q, raw (.lst (be.choices.map fun (k : Nat) => V.int k))), (p, benchO K be), (r, seqO K (row.map V.int)), blk (bestV t l best).2] ++ F), rt := Q }
              [some (.ref p), some (.ref r), some (.int i), some (bestV t l best).1, some (.int kk), some (.ref o), some (.int (be.moved kk).length), some (.ref t2)] H10 := by
          intro H10 R10 hbt
          walk_at "g"
          refine ixT_at R10 (by walk_at "sel") (by rfl) ?_
          walk_at "g"
          refine lst_new R10 (by simp) fun w H11 R11 => ?_
          walk_at "g"
          refine ixT_at R11 (by walk_at "sel") (by rfl) ?_
          walk_at "g"
          refine cat_at R11 (by walk_at "sel") (by walk_at "sel") (by have := BenchM.least_len hr2; simp; omega) fun c H12 R12 => ?_
          walk_at "g"
          refine tup_new R12 (by simp) fun t3 H13 R13 => ?_
          walk_at "g"
          walk_at "inv"
          rw [hbt] at hb
          have R14 : Rel H13 ([(t3, tupO [.int ((be.moved kk).length + m2), .ref c]), (c, raw (.lst ((((kk : Nat) : Int) :: cs2).map V.int)))] ++ ([(q, raw (.lst (be.choices.map fun (k : Nat) => V.int k))), (p, benchO K be), (r, seqO K (row.map V.int))] ++ F)) := R13.fin (by walk_at "sels") (by walk_at "drops")
          exact inv_s ⟨_, t3, c, _, _, _, _, rfl, hb, rfl⟩ (blk_close R14) (by walk_at "sels") (by walk_at "drops")
        cases best with
        | none =>
          refine ite_t rfl ?_
          exact new H9 (R9.fin (by walk_at "sels") (by walk_at "drops")) rfl
        | some b0 =>
          obtain ⟨m0, cs0⟩ := b0
          refine ite_f rfl ?_
          have R10 := blk_open (R9.sel (c := blk (bestV t l (some (m0, cs0))).2) (by walk_at "sel"))
          walk_at "g"
          refine ixT_at R10 (a := t2) (by walk_at "sel") (by rfl) ?_
          walk_at "g"
          refine ixT_at R10 (a := t) (xs := [.int m0, .ref l]) .here (by rfl) ?_
          walk_at "g"
          refine ite_d (fun h2 => ?_) fun h2 => ?_
          · exact new H9 (R9.fin (by walk_at "sels") (by walk_at "drops")) (by unfold BenchM.better; simp only []; rw [if_pos h2])
          · walk_at "g"
            walk_at "inv"
            have hbt : BenchM.better (some (m0, cs0)) ((be.moved kk).length + m2) ((kk : Int) :: cs2) = some (m0, cs0) := by unfold BenchM.better; simp only []; rw [if_neg h2]
            rw [hbt] at hb
            exact inv_s ⟨_, t, l, _, _, _, _, rfl, hb, rfl⟩ R9 (by walk_at "sels") (by walk_at "drops")
      · rintro σ H5 L R5 ⟨best, t, l, u1, u2, u3, u4, rfl, hb, rfl⟩
        rw [List.length_map, List.drop_length] at hb
        cases hb
        have R6 := blk_open (R5.sel (c := blk (bestV t l (some (m, cs))).2) (by walk_at "sel"))
        walk_at "g"
        exact k t l _ (R6.fin (by walk_at "sels") (by walk_at "drops"))
  walk_at "g"
  rw [List.length_map]
  refine ite_d (fun h1 => ?_) fun h1 => ?_
  · walk_at "g"
    refine meth_bench (by decide +kernel) R2 (by walk_at "sel") ?_
    walk_at "g"
    refine SpS.call R2 (by walk_at "sels") ⟨p, bi, rfl, rfl, oki, fun H3 R3 => ?_⟩
    walk_at "g"
    have hlt : i < row.length := by omega
    have edrop : row.drop i = row[i] :: row.drop (i + 1) := List.drop_eq_getElem_cons hlt
    rw [edrop] at hri
    unfold BenchM.run at hri
    refine ite_b (fun h2 => ?_) fun h2 => ?_
    · rw [if_pos h2] at hri
      obtain ⟨b2, h3, h4⟩ := Option.bind_eq_some_iff.mp hri
      refine whl_yes ?_
      walk_at "g"
      have ok2 := (BenchM.layDown_ok oki h3).1
      refine meth_bench (by decide +kernel) R3 .here ?_
      walk_at "g"
      refine ixL_at R3 (xs := row.map V.int) (.seq (by walk_at "sel")) (v := .int row[i]) (atI_of (by omega) (by simp [hlt])) ?_
      walk_at "g"
      refine SpS.call R3 (by walk_at "sels") ⟨p, bi, b2, _, rfl, rfl, oki, h3, fun H4 R4 => ?_⟩
      walk_at "g"
      walk_at "inv"
      exact inv_lt (μ - 1) (by omega) ⟨i + 1, b2, rfl, by omega, ok2, h4, rfl⟩ R4 (by walk_at "sels") (by walk_at "drops")
    · rw [if_neg (by rw [h2]; decide)] at hri
      cases hri
      exact aft H3 (R3.fin (by walk_at "sels") (by walk_at "drops")) oki edrop.symm (.inr ⟨hlt, h2⟩)
  · walk_at "g"
    have hie : i = row.length := by omega
    rw [hie, List.drop_length] at hri
    cases hri
    exact aft H2 (R2.fin (by walk_at "sels") (by walk_at "drops")) oki (by rw [hie, List.drop_length]) (.inl hie)
end
/-! ### the law's own model of a race -/
structure LSt where
  pages : Int
  held : List (List (Int × Int))
  times : List Int
  newest : List (Int × Int)
  stamp : Int
def look (l : List (Int × Int)) (s : Int) : Option Int := (l.find? fun q => decide (q.1 = s)).map (·.2)
def putI (l : List (Int × Int)) (s v : Int) : List (Int × Int) := if (l.any fun q => decide (q.1 = s)) = true then l.map (fun q => if q.1 = s then (q.1, v) else q) else l ++ [(s, v)]
def kvI (q : Int × Int) : Key × V := (Sum.inl q.1, .int q.2)
theorem valV_look (l : List (Int × Int)) (s : Int) : valV (l.map kvI) (Sum.inl s : Key) = (look l s).map V.int := by
  induction l with
  | nil => rfl
  | cons q l ih =>
    unfold valV look at *
    rw [List.map_cons, List.find?_cons, List.find?_cons]
    by_cases h : q.1 = s
    · have h2 : (kvI q).1 = (Sum.inl s : Key) := by rw [← h]; rfl
      rw [decide_eq_true h, decide_eq_true h2]; rfl
    · have h2 : ¬ (kvI q).1 = (Sum.inl s : Key) := fun z => h (Sum.inl.inj z)
      rw [decide_eq_false h, decide_eq_false h2]
      exact ih
theorem putK_putI (l : List (Int × Int)) (s v : Int) : putK (l.map kvI) (Sum.inl s : Key) (V.int v) = (putI l s v).map kvI := by
  have e : ((l.map kvI).any fun kv => decide (kv.1 = (Sum.inl s : Key))) = l.any fun q => decide (q.1 = s) := by
    rw [List.any_map]
    congr 1
    funext q
    show decide ((Sum.inl q.1 : Key) = Sum.inl s) = decide (q.1 = s)
    by_cases h : q.1 = s
    · rw [decide_eq_true h, decide_eq_true (by rw [h])]
    · rw [decide_eq_false h, decide_eq_false fun z => h (Sum.inl.inj z)]
  unfold putK putI
  rw [e]
  split
  · rw [List.map_map, List.map_map]
    congr 1
    funext q
    show (if (Sum.inl q.1 : Key) = Sum.inl s then ((Sum.inl q.1 : Key), V.int v) else (Sum.inl q.1, V.int q.2)) = kvI (if q.1 = s then (q.1, v) else q)
    by_cases h : q.1 = s
    · rw [if_pos h, if_pos (by rw [h])]; rfl
    · rw [if_neg h, if_neg fun z => h (Sum.inl.inj z)]; rfl
  · rw [List.map_append]; rfl
theorem putI_len (l : List (Int × Int)) (s v : Int) : (putI l s v).length ≤ l.length + 1 := by
  unfold putI; split <;> simp
def rowsO (rows : List (Int × Int)) : BO := tpsO (rows.map pairV)
abbrev lstK (s : LSt) (aH aT aN : Addr) : List (Key × V) := [(Sum.inr "pages", .int s.pages), (Sum.inr "held", .ref aH), (Sum.inr "times", .ref aT), (Sum.inr "newest", .ref aN), (Sum.inr "stamp", .int s.stamp)]
abbrev lstC (s : LSt) (p aH aT aN : Addr) (hs : List Addr) : List Cell := [(p, raw (.dK (lstK s aH aT aN))), (aH, raw (.lst (hs.map V.ref))), (aT, raw (.lst (s.times.map V.int))), (aN, raw (.dK (s.newest.map kvI))), lblk rowsO hs s.held]
structure LX where
  aH : Addr
  aT : Addr
  aN : Addr
  hs : List Addr
def lstO (s : LSt) : BO := exO (X := LX) (fun x p => lstC s p x.aH x.aT x.aN x.hs) (fun x _ => x.hs.length = s.held.length)
theorem lst_open {s : LSt} {H : Hp} {p : Addr} {L L' : List Cell} (R : Rel H L) (e : Sel (p, lstO s) L L') : ∃ aH aT aN hs, hs.length = s.held.length ∧ Rel H (lstC s p aH aT aN hs ++ L') := by
  obtain ⟨x, q, r⟩ := (R.sel e).open_
  exact ⟨x.aH, x.aT, x.aN, x.hs, q, r⟩
theorem lst_close {s : LSt} {H : Hp} {p aH aT aN : Addr} {hs : List Addr} {L L' : List Cell} (h : hs.length = s.held.length) (R : Rel H L) (e : Sels (lstC s p aH aT aN hs) L L') : Rel H ((p, lstO s) :: L') :=
  Rel.close_ (x := ⟨aH, aT, aN, hs⟩) h (R.sels e)
namespace LSt
def ok (s : LSt) : Prop := 1 ≤ s.pages ∧ s.pages ≤ 100 ∧ s.times.length = s.held.length ∧ s.held.length ≤ 100 ∧ (∀ r ∈ s.held, (r.length : Int) ≤ s.pages) ∧ (s.newest.length : Int) ≤ s.stamp ∧ s.stamp ≤ 1000 ∧ ∀ r ∈ s.held, ∀ q ∈ r, (look s.newest q.1).isSome = true
def new (blocks : Nat) (pages : Int) : LSt := ⟨pages, List.replicate blocks [], List.replicate blocks 0, [], 0⟩
def row (s : LSt) (k : Nat) : List (Int × Int) := s.held.getD k []
def partly (s : LSt) (k : Nat) : Bool := decide (0 < (s.row k).length) && decide (((s.row k).length : Int) < s.pages)
def begun (s : LSt) : List Nat := (List.range s.held.length).filter s.partly
def empties (s : LSt) : List Nat := (List.range s.held.length).filter fun k => (s.row k).isEmpty
def emptyPairs (s : LSt) : List (Int × Int) := s.empties.map fun k => (s.times.getD k 0, (k : Int))
def spot (s : LSt) : Option Nat := match s.begun with
  | k :: _ => some k
  | [] => match srtP s.emptyPairs with
    | [] => none
    | q :: _ => some q.2.toNat
def put (s : LSt) (sheet : Int) : Option LSt := s.spot.map fun k => { s with held := s.held.set k (s.row k ++ [(sheet, s.stamp + 1)]), stamp := s.stamp + 1, newest := putI s.newest sheet (s.stamp + 1) }
def isLive (s : LSt) (q : Int × Int) : Bool := decide (look s.newest q.1 = some q.2)
def live (s : LSt) (k : Nat) : List Int := ((s.row k).filter s.isLive).map (·.1)
def short (s : LSt) : Bool := if 1 < s.empties.length then false else decide (s.begun.length = 0)
def way (s : LSt) (k : Nat) : Bool := decide (((s.row k).length : Int) = s.pages) && decide ((s.live k).length < (s.row k).length)
def ways (s : LSt) : List Nat := (List.range s.held.length).filter s.way
def putAll : List Int → LSt → Option LSt
  | [], s => some s
  | z :: r, s => (s.put z).bind (putAll r)
def cleared (s : LSt) (k : Nat) : Option LSt := (putAll (s.live k) s).map fun s1 => { s1 with held := s1.held.set k [], times := s1.times.set k (s1.times.getD k 0 + 1) }
/-- the row run: picks used up one a making -/
def run (picks : List Int) : List Int → LSt → Int → List Int → Option (Int × List Int)
  | [], _, m, cs => some (m, cs)
  | z :: r, s, m, cs =>
    if s.short = true then (if s.ways = [] then none else (picks[cs.length]?).bind fun pk => (s.ways[(pk % (s.ways.length : Int)).toNat]?).bind fun k => (s.cleared k).bind fun s1 => (s1.put z).bind fun s2 => run picks r s2 (m + (s.live k).length) (cs ++ [(k : Int)]))
    else (s.put z).bind fun s2 => run picks r s2 m cs
end LSt
def sp__law_new (K : PySem.W.Frag) : Sp := SpS fun vs pre k => ∃ (n : Nat) (pages : Int), vs = [.int n, .int pages] ∧ pre = [] ∧ n ≤ 100 ∧ ∀ q, k (.ref q) [(q, lstO (.new n pages))]
def sp__law_put (K : PySem.W.Frag) : Sp := SpS fun vs pre k => ∃ (p : Addr) (s s' : LSt) (z : Int), vs = [.ref p, .int z] ∧ pre = [(p, lstO s)] ∧ s.ok ∧ s.put z = some s' ∧ k .non [(p, lstO s')]
def sp__law_live (K : PySem.W.Frag) : Sp := SpS fun vs pre k => ∃ (p : Addr) (s : LSt) (j : Nat) (aH aT aN : Addr) (hs : List Addr), vs = [.ref p, .int j] ∧ pre = lstC s p aH aT aN hs ∧ hs.length = s.held.length ∧ s.ok ∧ j < s.held.length ∧ ∀ q, k (.ref q) ((q, raw (.lst ((s.live j).map V.int))) :: lstC s p aH aT aN hs)
def sp__law_short (K : PySem.W.Frag) : Sp := SpS fun vs pre k => ∃ (p : Addr) (s : LSt), vs = [.ref p] ∧ pre = [(p, lstO s)] ∧ s.ok ∧ k (.bl s.short) [(p, lstO s)]
def sp__law_ways (K : PySem.W.Frag) : Sp := SpS fun vs pre k => ∃ (p : Addr) (s : LSt), vs = [.ref p] ∧ pre = [(p, lstO s)] ∧ s.ok ∧ ∀ q, k (.ref q) [(q, raw (.lst (s.ways.map fun (k : Nat) => V.int k))), (p, lstO s)]
def sp__law_cleared_out (K : PySem.W.Frag) : Sp := SpS fun vs pre k => ∃ (p : Addr) (s s' : LSt) (j : Nat), vs = [.ref p, .int j] ∧ pre = [(p, lstO s)] ∧ s.ok ∧ s.stamp ≤ 800 ∧ j < s.held.length ∧ s.cleared j = some s' ∧ k (.int (s.live j).length) [(p, lstO s')]
def sp__law_way (K : PySem.W.Frag) : Sp := SpS fun vs pre k => ∃ (r c : Addr) (n : Nat) (pages : Int) (row picks : List Int) (m : Int) (cs : List Int), vs = [.int n, .int pages, .ref r, .ref c] ∧ pre = [(r, seqO K (row.map V.int)), (c, seqO K (picks.map V.int))] ∧ n ≤ 4 ∧ 1 ≤ pages ∧ pages ≤ 3 ∧ row.length ≤ 20 ∧ LSt.run picks row (.new n pages) 0 [] = some (m, cs) ∧
  ∀ t l, k (.ref t) [(t, tupO [.int m, .ref l]), (l, raw (.lst (cs.map V.int))), (r, seqO K (row.map V.int)), (c, seqO K (picks.map V.int))]
/-- _law_new: _law_blocks 0, _law_pages 1, _law_k 2 -/
def t__law_new (K : PySem.W.Frag) : TS := tRet (tDisp [(tC (.str "pages"), tVar 1), (tC (.str "held"), tLc (iRng1 (tCons (tVar 0) (tNil))) (gName 2) (tYes) (tLst (tNil)) [2]), (tC (.str "times"), tOp rRep (tLst (tCons (tC (.int (0))) (tNil))) (tVar 0)), (tC (.str "newest"), tDNewK), (tC (.str "stamp"), tC (.int (0)))])
/-- _law_put: _law_state 0, _law_sheet 1, _law_held 2, _law_begun 3, _law_clear 4, _law_k 5 -/
def t__law_put (K : PySem.W.Frag) : TS := tSeq (tAsg (tDGet (tVar 0) (tC (.str "held"))) (gName 2)) (tSeq (tAsg (tLc (iRng1 (tCons (tCB (rLenV K) (tCons (tVar 2) (tNil))) (tNil))) (gName 5) (tChainT rLtI rLtI (tC (.int (0))) (tCB (rLenV K) (tCons (tOp (rIxL K) (tVar 2) (tVar 5)) (tNil))) (tDGet (tVar 0) (tC (.str "pages")))) (tVar 5) [5]) (gName 3)) (tSeq (tIfS (tTest (tOp (rEqD K) (tVar 3) (tLst (tNil)))) (tSeq (tAsg (tCB (rSortedPO K) (tCons (tLc (iRng1 (tCons (tCB (rLenV K) (tCons (tVar 2) (tNil))) (tNil))) (gName 5) (tTest (tOp (rEqD K) (tOp (rIxL K) (tVar 2) (tVar 5)) (tLst (tNil)))) (tTup (tCons (tOp (rIxL K) (tDGet (tVar 0) (tC (.str "times"))) (tVar 5)) (tCons (tVar 5) (tNil)))) [5]) (tNil))) (gName 4)) (tAsg (tLst (tCons (tOp (rIxT K) (tOp (rIxL K) (tVar 4) (tC (.int (0)))) (tC (.int (1)))) (tNil))) (gName 3))) (tNext)) (tSeq (sDAug (tVar 0) (tC (.str "stamp")) (tC (.int (1))) rAdd) (tSeq (tDrop (tBM K "list" rAppend (tOp (rIxL K) (tVar 2) (tOp (rIxL K) (tVar 3) (tC (.int (0))))) (tCons (tTup (tCons (tVar 1) (tCons (tDGet (tVar 0) (tC (.str "stamp"))) (tNil)))) (tNil)))) (sDPut (tDGet (tVar 0) (tC (.str "newest"))) (tVar 1) (tDGet (tVar 0) (tC (.str "stamp"))))))))
/-- _law_live: _law_state 0, _law_block 1, _law_sheet 2, _law_stamp 3 -/
def t__law_live (K : PySem.W.Frag) : TS := tRet (tLc (iList K (tOp (rIxL K) (tDGet (tVar 0) (tC (.str "held"))) (tVar 1))) (gTup K 2 (gCons (gName 2) (gCons (gName 3) (gNil)))) (tTest (tOp rEq (tDGet (tDGet (tVar 0) (tC (.str "newest"))) (tVar 2)) (tVar 3))) (tVar 2) [2, 3])
/-- _law_short: _law_state 0, _law_held 1, _law_row 2 -/
def t__law_short (K : PySem.W.Frag) : TS := tSeq (tAsg (tDGet (tVar 0) (tC (.str "held"))) (gName 1)) (tSeq (tIfS (tTest (tOp rGtI (tCB (rLenV K) (tCons (tLc (iList K (tVar 1)) (gName 2) (tTest (tOp (rEqD K) (tVar 2) (tLst (tNil)))) (tVar 2) [2]) (tNil))) (tC (.int (1))))) (tRet (tC (.bl false))) (tNext)) (tRet (tOp rEq (tCB (rLenV K) (tCons (tLc (iList K (tVar 1)) (gName 2) (tChainT rLtI rLtI (tC (.int (0))) (tCB (rLenV K) (tCons (tVar 2) (tNil))) (tDGet (tVar 0) (tC (.str "pages")))) (tVar 2) [2]) (tNil))) (tC (.int (0))))))
/-- _law_ways: _law_state 0, _law_found 1, _law_block 2, _law_row 3 -/
def t__law_ways (K : PySem.W.Frag) : TS := tSeq (tAsg (tLst (tNil)) (gName 1)) (tSeq (tFor (iEnum K (tCons (tDGet (tVar 0) (tC (.str "held"))) (tNil))) (gTup K 2 (gCons (gName 2) (gCons (gName 3) (gNil)))) (tIfS (tAnd (tTest (tOp rEq (tCB (rLenV K) (tCons (tVar 3) (tNil))) (tDGet (tVar 0) (tC (.str "pages"))))) (tTest (tOp rLtI (tCB (rLenV K) (tCons (tCall (sp__law_live K) [] E0 (tCons (tVar 0) (tCons (tVar 2) (tNil)))) (tNil))) (tCB (rLenV K) (tCons (tVar 3) (tNil)))))) (tDrop (tBM K "list" rAppend (tVar 1) (tCons (tVar 2) (tNil)))) (tNext))) (tRet (tVar 1)))
/-- _law_cleared_out: _law_state 0, _law_block 1, _law_moved 2, _law_sheet 3 -/
def t__law_cleared_out (K : PySem.W.Frag) : TS := tSeq (tAsg (tCall (sp__law_live K) [] E0 (tCons (tVar 0) (tCons (tVar 1) (tNil)))) (gName 2)) (tSeq (tFor (iList K (tVar 2)) (gName 3) (tDrop (tCall (sp__law_put K) [] E0 (tCons (tVar 0) (tCons (tVar 3) (tNil)))))) (tSeq (tAsg (tLst (tNil)) (gSub (tDGet (tVar 0) (tC (.str "held"))) (tVar 1) rSetL)) (tSeq (tAugS (tDGet (tVar 0) (tC (.str "times"))) (tVar 1) (tC (.int (1))) (rIxL K) (ipI fun i j => i + j) rSetL) (tRet (tCB (rLenV K) (tCons (tVar 2) (tNil)))))))
/-- _law_way: _law_blocks 0, _law_pages 1, _law_row 2, _law_picks 3, _law_state 4, _law_moves 5, _law_chosen 6, _law_sheet 7, _law_ways_here 8, _law_block 9 -/
def t__law_way (K : PySem.W.Frag) : TS := tSeq (tAsg (tCall (sp__law_new K) [] E0 (tCons (tVar 0) (tCons (tVar 1) (tNil)))) (gName 4)) (tSeq (tAsg (tC (.int (0))) (gName 5)) (tSeq (tAsg (tLst (tNil)) (gName 6)) (tSeq (tFor (iList K (tVar 2)) (gName 7) (tSeq (tIfS (tB (tCall (sp__law_short K) [] E0 (tCons (tVar 4) (tNil)))) (tSeq (tAsg (tCall (sp__law_ways K) [] E0 (tCons (tVar 4) (tNil))) (gName 8)) (tSeq (tAsg (tOp (rIxL K) (tVar 8) (tOp rModI (tOp (rIxL K) (tVar 3) (tCB (rLenV K) (tCons (tVar 6) (tNil)))) (tCB (rLenV K) (tCons (tVar 8) (tNil))))) (gName 9)) (tSeq (tAug 5 (tCall (sp__law_cleared_out K) [] E0 (tCons (tVar 4) (tCons (tVar 9) (tNil)))) (ipI fun i j => i + j)) (tDrop (tBM K "list" rAppend (tVar 6) (tCons (tVar 9) (tNil))))))) (tNext)) (tDrop (tCall (sp__law_put K) [] E0 (tCons (tVar 4) (tCons (tVar 7) (tNil))))))) (tRet (tTup (tCons (tVar 5) (tCons (tVar 6) (tNil))))))))
section
variable {K : PySem.W.Frag} {vs : List V} {H : Hp} {Q : VK} {E : XK} {L L' : List Cell} {a : Addr}
theorem pure__law_new (h : sp__law_new K vs H Q E) : t__law_new K (endsOf Q) (start ["_law_blocks", "_law_pages", "_law_k"] vs) H := by
  obtain ⟨pre, F, R, n, pages, rfl, rfl, hn, k⟩ := h.use
  unfold t__law_new
  walk_at "g"
  refine go_disp R fun p H1 R1 => ?_
  walk_at "g"
  refine rng1_at (by omega) (by omega) ?_
  refine lcJ (wk_range (n := n)) (fun i acc L => ∃ ss : List Addr, ss.length = i ∧ acc = ss.map V.ref ∧ L = [lblk rowsO ss (List.replicate i []), (p, raw (.dK []))] ++ F) (lblk_nil R1) ⟨[], rfl, rfl, rfl⟩ (fun _ _ _ _ _ _ => trivial) ?_ ?_
  · rintro i x cs acc D H2 L hi ha ⟨ss, hl, rfl, rfl⟩ ⟨rfl, rfl⟩ R2
    walk_at "g"
    refine ⟨rfl, ?_⟩
    walk_at "g"
    refine lst_new R2 (by simp) fun a H3 R3 => ?_
    have R4 : Rel H3 ((a, rowsO []) :: _) := ls_close (f := tupO) (xs := []) (ss := []) rfl (lblk_nil R3) (.there .here) .here
    have R5 := lblk_snoc (f := rowsO) (a := a) (x := []) R4 (by walk_at "sel") (by walk_at "sel") (by simp [hl])
    exact lc_puts ha (by omega) ⟨ss ++ [a], by simp [hl], by simp, by rw [List.replicate_succ']⟩ R5 (by walk_at "sels") (by walk_at "drops")
  · rintro acc D H2 L R2 ⟨ss, hl, rfl, rfl⟩
    walk_at "g"
    refine lst_new R2 (by simp) fun a H5 R5 => ?_
    walk_at "g"
    refine rep_at R5 (by walk_at "sel") (by omega) (by simp; omega) (by omega) fun c H6 R6 => ?_
    walk_at "g"
    refine go_dnewK R6 fun d H7 R7 => ?_
    walk_at "g"
    refine disp_at (ks := lstK (.new n pages) D c d) (lstK (.new n pages) D c d) R7 (by walk_at "sel") rfl (by simp) (by kernel_rfl) fun H8 R8 => ?_
    have e : (List.replicate ((n : Int).toNat) [V.int 0]).flatten = (LSt.new n pages).times.map V.int := by simp [LSt.new]
    rw [e] at R8
    exact k _ _ ((lst_close (s := LSt.new n pages) (hs := ss) (by simp [LSt.new, hl]) R8 (by walk_at "sels")).fin (by walk_at "sels") (by walk_at "drops"))
theorem row_get {s : LSt} {j : Nat} {r : List (Int × Int)} (h : s.held[j]? = some r) : s.row j = r := by simp [LSt.row, h]
theorem pure__law_live (h : sp__law_live K vs H Q E) : t__law_live K (endsOf Q) (start ["_law_state", "_law_block", "_law_sheet", "_law_stamp"] vs) H := by
  obtain ⟨pre, F, R1, p, s, j, aH, aT, aN, hs, rfl, rfl, hl, ok, hj, k⟩ := h.use
  obtain ⟨o1, o2, o3, o4, o5, o6, o7, o8⟩ := id ok
  obtain ⟨a, ea⟩ : ∃ a, hs[j]? = some a := ⟨hs[j], by simp [show j < hs.length by omega]⟩
  obtain ⟨rw_, er⟩ : ∃ r, s.held[j]? = some r := ⟨s.held[j], by simp [hj]⟩
  have hrl : (rw_.length : Int) ≤ s.pages := o5 rw_ (List.mem_of_getElem? er)
  unfold t__law_live
  walk_at "g"
  refine dget_at (Sum.inr "held") R1 .here rfl (v := .ref aH) (by kernel_rfl) ?_
  walk_at "g"
  refine ixL_at R1 (by walk_at "lst") (v := .ref a) (atI_of (by omega) (by simp [ea])) ?_
  obtain ⟨A, R2, back⟩ := lblk_at (f := rowsO) R1 (by walk_at "sel") ea er
  obtain ⟨ts, htl, R3⟩ := ls_open R2 .here
  have htl2 : ts.length = rw_.length := by rw [htl, List.length_map]
  refine iList_at R3 (xs := ts.map V.ref) (.raw .here) ?_
  refine lcF (wk_list (xs := ts.map V.ref)) (fun i => (rw_[i]?).bind fun q => if s.isLive q = true then some (V.int q.1) else none) R3 (fun acc D => .raw (.there .here)) ?_ ?_
  · rintro i x cs acc D H5 hi ha ⟨hx, rfl⟩ R5
    rw [List.length_map] at hi
    obtain ⟨t, et⟩ : ∃ t, ts[i]? = some t := ⟨ts[i], by simp [hi]⟩
    obtain ⟨q, eq⟩ : ∃ q, rw_[i]? = some q := ⟨rw_[i]'(by omega), by simp [show i < rw_.length by omega]⟩
    have ex : x = .ref t := by rw [List.getElem?_map, et] at hx; exact (Option.some.inj hx).symm
    subst ex
    obtain ⟨A2, R6, _⟩ := lblk_at (f := tupO) R5 (by walk_at "sel") et (x := [.int q.1, .int q.2]) (by rw [List.getElem?_map, eq]; rfl)
    walk_at "g"
    refine ⟨rfl, ?_⟩
    walk_at "g"
    have hk := o8 rw_ (List.mem_of_getElem? er) q (List.mem_of_getElem? eq)
    obtain ⟨v, hv⟩ := Option.isSome_iff_exists.mp hk
    refine dget_at (Sum.inr "newest") R5 (by walk_at "sel") rfl (v := .ref aN) (by kernel_rfl) ?_
    walk_at "g"
    refine dget_at (Sum.inl q.1) R5 (by walk_at "sel") rfl (v := .int v) (by rw [valV_look, hv]; rfl) ?_
    walk_at "g"
    refine go_eq rfl ?_
    walk_at "g"
    refine ite_d (fun h1 => ?_) fun h1 => ?_
    · walk_at "g"
      have hlv : s.isLive q = true := by unfold LSt.isLive; rw [hv, V.int.inj h1]; simp
      exact flt_put (by rw [eq]; show (if s.isLive q = true then _ else _) = _; rw [if_pos hlv]) (by omega) ha R5 (by walk_at "sel") (by walk_at "drops")
    · have hlv : ¬ s.isLive q = true := by
        unfold LSt.isLive
        rw [hv]
        intro z
        exact h1 (congrArg V.int (Option.some.inj (of_decide_eq_true z)))
      exact flt_not (by rw [eq]; show (if s.isLive q = true then _ else _) = _; rw [if_neg hlv]) ha R5 (by walk_at "sel") (by walk_at "drops")
  · intro D H5 R5
    walk_at "g"
    have e : (List.range (ts.map V.ref).length).filterMap (fun i => (rw_[i]?).bind fun q => if s.isLive q = true then some (V.int q.1) else none) = (s.live j).map V.int := by
      rw [List.length_map, htl2]
      unfold LSt.live
      rw [row_get er]
      have := filterMap_get2 (fun q => if s.isLive q = true then some (V.int q.1) else none) rw_
      rw [this]
      clear this hrl htl2 htl R3 R2 er back R5
      induction rw_ with
      | nil => rfl
      | cons q l ih => cases hq : s.isLive q <;> simp [List.filterMap_cons, List.filter_cons, hq, ih]
    rw [e] at R5
    have R6 := ls_close (f := tupO) (a := a) (xs := rw_.map pairV) htl R5 (by walk_at "sel") (by walk_at "sel")
    have R7 := back _ _ _ _ rw_ R6 .here (by walk_at "sel")
    rw [set_self er] at R7
    exact k D _ (R7.fin (by walk_at "sels") (by walk_at "drops"))
end
section
variable {K : PySem.W.Frag} {vs : List V} {H : Hp} {Q : VK} {E : XK} {L L' : List Cell} {a : Addr}
/-! data of pairs -/
def pyP (q : Int × Int) : PyData := .tuple [.int q.1, .int q.2]
theorem lay_pairs : ∀ l : List (Int × Int), PyData.canLayAll0 (l.map pyP) = true ∧ PyData.depthAll (l.map pyP) ≤ 1
  | [] => ⟨rfl, Nat.zero_le _⟩
  | q :: l => ⟨(lay_pairs l).1, by
    show max 1 (PyData.depthAll (l.map pyP)) ≤ 1
    have := (lay_pairs l).2
    omega⟩
theorem shaped_pairs (l : List (Int × Int)) : SeqAt.shaped (.list (l.map pyP)) = true := by
  unfold SeqAt.shaped
  have h1 : (PyData.list (l.map pyP)).canLay0 = true := (lay_pairs l).1
  have h2 : (PyData.list (l.map pyP)).depth ≤ 64 := by
    show PyData.depthAll (l.map pyP) + 1 ≤ 64
    have := (lay_pairs l).2
    omega
  rw [h1, decide_eq_true h2]; rfl
theorem dp_pairs {H : Hp} : ∀ {ts : List Addr} {l : List (Int × Int)} {F : List Cell}, ts.length = l.length → Rel H (lcells tupO ts (l.map pairV) ++ F) → DpAll K H (ts.map V.ref) (l.map pyP)
  | [], [], _, _, _ => .nil
  | t :: ts, q :: l, F, h, R => by
    have R' : Rel H ((t, tupO (pairV q)) :: (lcells tupO ts (l.map pairV) ++ F)) := R
    exact .cons (.tup (.inl (.inl R'.tup0)) (.cons (.int _) (.cons (.int _) .nil))) (dp_pairs (by simpa using h) R'.drop)
/-- a row of pairs as data -/
theorem dp_rows {H : Hp} {l : List (Int × Int)} {L L' : List Cell} {a : Addr} (R : Rel H L) (s : Sel (a, rowsO l) L L') : Dp K H (.ref a) (.list (l.map pyP)) := by
  obtain ⟨ts, htl, R1⟩ := ls_open R s
  exact .lst (.inl (.inl R1.raw0)) (dp_pairs (by simpa using htl) (blk_open (R1.sel (.there .here))))
theorem dp_nil {H : Hp} {L L' : List Cell} {a : Addr} (R : Rel H L) (s : Sel (a, raw (.lst [])) L L') : Dp K H (.ref a) (.list []) := .lst (.inl (.inl (R.at s))) .nil
theorem isEmpty_map' {α β : Type} (f : α → β) (l : List α) : (l.map f).isEmpty = l.isEmpty := by cases l <;> rfl
theorem filterMap_if {α β : Type} (p : α → Bool) (g : α → β) (l : List α) : l.filterMap (fun x => if p x = true then some (g x) else none) = (l.filter p).map g := by
  induction l with
  | nil => rfl
  | cons x l ih => cases h : p x <;> simp [List.filterMap_cons, List.filter_cons, h, ih]
theorem len_row {H : Hp} {l : List (Int × Int)} {L L' : List Cell} {a : Addr} (R : Rel H L) (s : Sel (a, rowsO l) L L') (q : Q (.int (l.length : Int)) H) : rLenV K [V.ref a] H Q := by
  obtain ⟨ts, htl, R1⟩ := ls_open R s
  refine go_len R1 (xs := ts.map V.ref) (.raw .here) ?_
  rw [List.length_map, htl, List.length_map]
  exact q
theorem filterMap_len {α : Type} (p : Nat → Bool) (f : α → V) (hs : List α) : ∀ n ≤ hs.length, ((List.range n).filterMap (fun i => (hs[i]?).bind fun a => if p i = true then some (f a) else none)).length = ((List.range n).filter p).length := by
  intro n hn
  induction n with
  | zero => rfl
  | succ n ih =>
    rw [List.range_succ, List.filterMap_append, List.filter_append, List.length_append, List.length_append, ih (by omega)]
    obtain ⟨t, et⟩ : ∃ t, hs[n]? = some t := ⟨hs[n], by simp [show n < hs.length by omega]⟩
    cases he : p n <;> simp [List.filterMap_cons, et, he]
theorem pure__law_short (h : sp__law_short K vs H Q E) : t__law_short K (endsOf Q) (start ["_law_state", "_law_held", "_law_row"] vs) H := by
  obtain ⟨pre, F, R, p, s, rfl, rfl, ok, k⟩ := h.use
  obtain ⟨o1, o2, o3, o4, o5, o6, o7, o8⟩ := id ok
  obtain ⟨aH, aT, aN, hs, hl, R1⟩ := lst_open R .here
  have hk : ∀ H', Rel H' ((p, lstO s) :: F) → Q (.bl s.short) H' := k
  unfold LSt.short at hk
  unfold t__law_short
  walk_at "g"
  refine dget_at (Sum.inr "held") R1 .here rfl (v := .ref aH) (by kernel_rfl) ?_
  walk_at "g"
  refine lcF (wk_list (xs := hs.map V.ref)) (fun i => (hs[i]?).bind fun a => if (s.row i).isEmpty = true then some (.ref a) else none) R1 (fun acc D => by walk_at "lst") ?_ ?_
  · rintro i x cs acc D H5 hi ha ⟨hx, rfl⟩ R5
    rw [List.length_map] at hi
    obtain ⟨t, et⟩ : ∃ t, hs[i]? = some t := ⟨hs[i], by simp [hi]⟩
    obtain ⟨q, eq⟩ : ∃ q, s.held[i]? = some q := ⟨s.held[i]'(by omega), by simp [show i < s.held.length by omega]⟩
    have ex : x = .ref t := by rw [List.getElem?_map, et] at hx; exact (Option.some.inj hx).symm
    subst ex
    walk_at "g"
    refine ⟨rfl, ?_⟩
    walk_at "g"
    refine lst_new R5 (by simp) fun w H6 R6 => ?_
    obtain ⟨A2, R7, _⟩ := lblk_at (f := rowsO) R6 (by walk_at "sel") et eq
    refine eqD_at (dp_rows R7 .here) (dp_nil R7 (by walk_at "sel")) (shaped_pairs q) (shaped_pairs []) ?_
    rw [eqv_nil, isEmpty_map']
    walk_at "g"
    refine ite_b (fun h1 => ?_) fun h1 => ?_
    · walk_at "g"
      exact flt_put (by rw [et]; show (if (s.row i).isEmpty = true then _ else _) = _; rw [row_get eq, if_pos h1]) (by omega) ha R6 (by walk_at "sel") (by walk_at "drops")
    · exact flt_not (by rw [et]; show (if (s.row i).isEmpty = true then _ else _) = _; rw [row_get eq, h1]; rfl) ha R6 (by walk_at "sel") (by walk_at "drops")
  · intro D H5 R5
    have e1 : ((List.range (hs.map V.ref).length).filterMap (fun i => (hs[i]?).bind fun a => if (s.row i).isEmpty = true then some (V.ref a) else none)).length = s.empties.length := by
      rw [List.length_map, hl]
      unfold LSt.empties
      exact filterMap_len (fun k => (s.row k).isEmpty) V.ref hs _ (by omega)
    walk_at "g"
    rw [e1]
    refine ite_d (fun h1 => ?_) fun h1 => ?_
    · walk_at "g"
      rw [if_pos (by omega)] at hk
      exact hk _ ((lst_close hl R5 (by walk_at "sels")).fin (cs := [_]) (by walk_at "sels") (by walk_at "drops"))
    · rw [if_neg (by omega)] at hk
      have R5' : Rel H5 (lstC s p aH aT aN hs ++ F) := R5.fin (by walk_at "sels") (by walk_at "drops")
      clear R5
      walk_at "g"
      refine lcF (wk_list (xs := hs.map V.ref)) (fun i => (hs[i]?).bind fun a => if s.partly i = true then some (.ref a) else none) R5' (fun acc D => by walk_at "lst") ?_ ?_
      · rintro i x cs acc D H5 hi ha ⟨hx, rfl⟩ R5
        rw [List.length_map] at hi
        obtain ⟨t, et⟩ : ∃ t, hs[i]? = some t := ⟨hs[i], by simp [hi]⟩
        obtain ⟨q, eq⟩ : ∃ q, s.held[i]? = some q := ⟨s.held[i]'(by omega), by simp [show i < s.held.length by omega]⟩
        have ex : x = .ref t := by rw [List.getElem?_map, et] at hx; exact (Option.some.inj hx).symm
        subst ex
        obtain ⟨A2, R7, _⟩ := lblk_at (f := rowsO) R5 (by walk_at "sel") et eq
        walk_at "g"
        refine ⟨rfl, ?_⟩
        walk_at "g"
        refine len_row R7 .here ?_
        walk_at "g"
        refine ite_d (fun h1 => ?_) fun h1 => ?_
        · walk_at "g"
          refine dget_at (Sum.inr "pages") R5 (by walk_at "sel") rfl (v := .int s.pages) (by kernel_rfl) ?_
          walk_at "g"
          refine ite_d (fun h2 => ?_) fun h2 => ?_
          · walk_at "g"
            have hp : s.partly i = true := by unfold LSt.partly; rw [row_get eq, decide_eq_true (show 0 < q.length by omega), decide_eq_true h2]; rfl
            exact flt_put (by rw [et]; show (if s.partly i = true then _ else _) = _; rw [if_pos hp]) (by omega) ha R5 (by walk_at "sel") (by walk_at "drops")
          · have hp : s.partly i = false := by unfold LSt.partly; rw [row_get eq, decide_eq_false h2, Bool.and_false]
            exact flt_not (by rw [et]; show (if s.partly i = true then _ else _) = _; rw [hp]; rfl) ha R5 (by walk_at "sel") (by walk_at "drops")
        · walk_at "g"
          have hp : s.partly i = false := by unfold LSt.partly; rw [row_get eq, decide_eq_false (show ¬ 0 < q.length by omega), Bool.false_and]
          exact flt_not (by rw [et]; show (if s.partly i = true then _ else _) = _; rw [hp]; rfl) ha R5 (by walk_at "sel") (by walk_at "drops")
      · intro D2 H6 R6
        have e2 : ((List.range (hs.map V.ref).length).filterMap (fun i => (hs[i]?).bind fun a => if s.partly i = true then some (V.ref a) else none)).length = s.begun.length := by
          rw [List.length_map, hl]
          unfold LSt.begun
          exact filterMap_len s.partly V.ref hs _ (by omega)
        walk_at "g"
        rw [e2]
        refine go_eq rfl ?_
        have e3 : decide (V.int (s.begun.length : Int) = V.int 0) = decide (s.begun.length = 0) := by
          by_cases z : s.begun.length = 0
          · rw [z]; rfl
          · rw [decide_eq_false z, decide_eq_false fun w => z (by have := V.int.inj w; omega)]
        rw [e3]
        exact hk _ ((lst_close hl R6 (by walk_at "sels")).fin (cs := [_]) (by walk_at "sels") (by walk_at "drops"))
end
section
variable {K : PySem.W.Frag} {vs : List V} {H : Hp} {Q : VK} {E : XK} {L L' : List Cell} {a : Addr}
namespace LSt
theorem mem_empties {s : LSt} {k : Nat} : k ∈ s.empties ↔ k < s.held.length ∧ s.row k = [] := by
  unfold empties; rw [List.mem_filter, List.mem_range, List.isEmpty_iff]
theorem mem_begun {s : LSt} {k : Nat} : k ∈ s.begun ↔ k < s.held.length ∧ s.partly k = true := by
  unfold begun; rw [List.mem_filter, List.mem_range]
theorem spot_ok {s : LSt} {k : Nat} (h : s.spot = some k) (hp : 1 ≤ s.pages) : k < s.held.length ∧ ((s.row k).length : Int) < s.pages := by
  unfold spot at h
  cases hb : s.begun with
  | cons j r =>
    rw [hb] at h
    have : j ∈ s.begun := by rw [hb]; exact List.mem_cons_self
    obtain ⟨h1, h2⟩ := mem_begun.mp this
    have := Option.some.inj h
    subst this
    refine ⟨h1, ?_⟩
    unfold partly at h2
    exact of_decide_eq_true (Bool.and_eq_true _ _ ▸ h2).2
  | nil =>
    rw [hb] at h
    cases he : srtP s.emptyPairs with
    | nil => rw [he] at h; cases h
    | cons q r =>
      rw [he] at h
      have hq : q ∈ s.emptyPairs := (srtP_perm _).mem_iff.mp (by rw [he]; exact List.mem_cons_self)
      obtain ⟨n, hn, rfl⟩ := List.mem_map.mp hq
      obtain ⟨h1, h2⟩ := mem_empties.mp hn
      have : ((n : Int)).toNat = k := Option.some.inj h
      rw [Int.toNat_natCast] at this
      subst this
      exact ⟨h1, by rw [h2]; exact hp⟩
theorem look_putI (l : List (Int × Int)) (s v t : Int) : look (putI l s v) t = if t = s then some v else look l t := by
  have fl : ∀ l : List (Int × Int), (l.any fun q => decide (q.1 = s)) = false → look l s = none := by
    intro l h
    unfold look
    rw [List.find?_eq_none.mpr]; rfl
    intro q hq
    have := List.any_eq_false.mp h q hq
    simpa using this
  unfold putI
  split
  · rename_i h
    induction l with
    | nil => simp at h
    | cons q l ih =>
      unfold look at *
      rw [List.map_cons, List.find?_cons, List.find?_cons]
      by_cases hq : q.1 = s
      · rw [if_pos hq]
        by_cases ht : t = s
        · subst ht
          rw [if_pos rfl, decide_eq_true (by exact hq)]; rfl
        · rw [if_neg ht]
          have e1 : decide ((q.1, v).1 = t) = false := decide_eq_false (by rw [hq]; exact fun z => ht z.symm)
          have e2 : decide (q.1 = t) = false := decide_eq_false (by rw [hq]; exact fun z => ht z.symm)
          rw [e1]
          by_cases ha : (l.any fun q => decide (q.1 = s)) = true
          · have := ih ha
            rw [if_neg ht] at this
            exact this
          · have e3 : l.map (fun q => if q.1 = s then (q.1, v) else q) = l := by
              have ha := Bool.eq_false_iff.mpr ha
              have h4 : ∀ q ∈ l, (if q.1 = s then (q.1, v) else q) = q := fun q hq => by
                rw [if_neg]; simpa using List.any_eq_false.mp ha q hq
              exact (List.map_congr_left h4).trans (List.map_id l)
            rw [e3]
      · rw [if_neg hq]
        have ha : (l.any fun q => decide (q.1 = s)) = true := by simpa [hq] using h
        by_cases ht : q.1 = t
        · rw [decide_eq_true ht, if_neg (by rw [← ht]; exact hq)]
        · rw [decide_eq_false ht]
          exact ih ha
  · rename_i h
    have h := Bool.eq_false_iff.mpr h
    unfold look at *
    rw [List.find?_append]
    by_cases ht : t = s
    · subst ht
      have := fl l h
      rw [Option.map_eq_none_iff.mp this, if_pos rfl]
      simp
    · rw [if_neg ht]
      have : List.find? (fun q => decide (q.1 = t)) [(s, v)] = none := by
        rw [List.find?_eq_none]
        intro q hq
        rw [List.mem_singleton.mp hq]
        simpa using fun z => ht (Eq.symm z)
      rw [this]; simp
theorem row_set {s : LSt} {k j : Nat} {r : List (Int × Int)} (hk : k < s.held.length) (s' : LSt) (h : s'.held = s.held.set k r) : s'.row j = if j = k then r else s.row j := by
  unfold row
  rw [h, List.getD_eq_getElem?_getD, List.getD_eq_getElem?_getD, List.getElem?_set]
  by_cases e : k = j
  · subst e; simp [hk]
  · rw [if_neg e, if_neg fun z => e z.symm]
theorem put_eq {s s' : LSt} {z : Int} (h : s.put z = some s') : ∃ k, s.spot = some k ∧ s' = { s with held := s.held.set k (s.row k ++ [(z, s.stamp + 1)]), stamp := s.stamp + 1, newest := putI s.newest z (s.stamp + 1) } := by
  unfold put at h
  obtain ⟨k, h1, h2⟩ := Option.map_eq_some_iff.mp h
  exact ⟨k, h1, h2.symm⟩
theorem put_ok {s s' : LSt} {z : Int} (ok : s.ok) (hs : s.stamp ≤ 999) (h : s.put z = some s') : s'.ok ∧ s'.stamp = s.stamp + 1 ∧ s'.pages = s.pages ∧ s'.held.length = s.held.length := by
  obtain ⟨k, h1, rfl⟩ := put_eq h
  obtain ⟨o1, o2, o3, o4, o5, o6, o7, o8⟩ := ok
  obtain ⟨hk, hr⟩ := spot_ok h1 o1
  have mem : ∀ r ∈ s.held.set k (s.row k ++ [(z, s.stamp + 1)]), r ∈ s.held ∨ r = s.row k ++ [(z, s.stamp + 1)] := fun r hr => List.mem_or_eq_of_mem_set hr
  have hrow : s.row k ∈ s.held := by
    unfold row
    rw [List.getD_eq_getElem?_getD, List.getElem?_eq_getElem hk]
    exact List.getElem_mem hk
  have keep : ∀ t, (look s.newest t).isSome = true → (look (putI s.newest z (s.stamp + 1)) t).isSome = true := fun t ht => by
    rw [look_putI]; split
    · rfl
    · exact ht
  refine ⟨⟨o1, o2, by simpa using o3, by simpa using o4, fun r hr2 => ?_, ?_, by show s.stamp + 1 ≤ 1000; omega, fun r hr2 q hq => ?_⟩, rfl, rfl, by simp⟩
  · rcases mem r hr2 with h | rfl
    · exact o5 r h
    · show (((s.row k) ++ [(z, s.stamp + 1)]).length : Int) ≤ s.pages
      rw [List.length_append, List.length_singleton]; omega
  · have := putI_len s.newest z (s.stamp + 1)
    show ((putI s.newest z (s.stamp + 1)).length : Int) ≤ s.stamp + 1
    omega
  · rcases mem r hr2 with h | rfl
    · exact keep _ (o8 r h q hq)
    · rcases List.mem_append.mp hq with h | h
      · exact keep _ (o8 _ hrow q h)
      · have := List.mem_singleton.mp h
        subst this
        show (look (putI s.newest z (s.stamp + 1)) z).isSome = true
        rw [look_putI, if_pos rfl]; rfl
end LSt
theorem Rel.atl {L L' : List Cell} {a : Addr} {H : Hp} {xs : List V} (R : Rel H L) (s : Sel (a, raw (.lst xs)) L L') : SqL K H a xs := .inl (.inl (R.at s))
theorem pure__law_put (h : sp__law_put K vs H Q E) : t__law_put K (endsOf Q) (start ["_law_state", "_law_sheet", "_law_held", "_law_begun", "_law_clear", "_law_k"] vs) H := by
  obtain ⟨pre, F, R, p, s, s', z, rfl, rfl, ok, hb, k⟩ := h.use
  obtain ⟨o1, o2, o3, o4, o5, o6, o7, o8⟩ := id ok
  obtain ⟨aH, aT, aN, hs, hl, R1⟩ := lst_open R .here
  obtain ⟨j, hsp, es'⟩ := LSt.put_eq hb
  obtain ⟨hj, hjr⟩ := LSt.spot_ok hsp o1
  unfold t__law_put
  walk_at "g"
  refine dget_at (Sum.inr "held") R1 .here rfl (v := .ref aH) (by kernel_rfl) ?_
  walk_at "g"
  refine rng1_at (by omega) (by rw [List.length_map]; omega) ?_
  refine lcF (wk_range (n := (hs.map V.ref).length)) (fun i => if s.partly i = true then some (.int i) else none) R1 (fun _ _ => trivial) ?_ ?_
  · rintro i x cs acc D H2 hi ha ⟨rfl, rfl⟩ R2
    rw [List.length_map] at hi
    obtain ⟨a, ea⟩ : ∃ a, hs[i]? = some a := ⟨hs[i], by simp [hi]⟩
    obtain ⟨r, er⟩ : ∃ r, s.held[i]? = some r := ⟨s.held[i]'(by omega), by simp [show i < s.held.length by omega]⟩
    have eD : s.row i = r := row_get er
    have e0 : (0 : Int) + i = (i : Int) := Int.zero_add _
    rw [e0]
    walk_at "g"
    refine ⟨rfl, ?_⟩
    walk_at "g"
    refine ixL_at R2 (by walk_at "lst") (v := .ref a) (atI_of (by omega) (by simp [ea])) ?_
    obtain ⟨A, R3, _⟩ := lblk_at (f := rowsO) R2 (by walk_at "sel") ea er
    walk_at "g"
    refine len_row R3 .here ?_
    walk_at "g"
    refine ite_d (fun h1 => ?_) fun h1 => ?_
    · walk_at "g"
      refine dget_at (Sum.inr "pages") R2 (by walk_at "sel") rfl (v := .int s.pages) (by kernel_rfl) ?_
      walk_at "g"
      refine ite_d (fun h2 => ?_) fun h2 => ?_
      · walk_at "g"
        have hp : s.partly i = true := by unfold LSt.partly; rw [eD, decide_eq_true (show 0 < r.length by omega), decide_eq_true h2]; rfl
        exact flt_put (by rw [hp]; rfl) (by omega) ha R2 (by walk_at "sel") (by walk_at "drops")
      · have hp : s.partly i = false := by unfold LSt.partly; rw [eD, decide_eq_false h2, Bool.and_false]
        exact flt_not (by rw [hp]; rfl) ha R2 (by walk_at "sel") (by walk_at "drops")
    · walk_at "g"
      have hp : s.partly i = false := by unfold LSt.partly; rw [eD, decide_eq_false (show ¬ 0 < r.length by omega), Bool.false_and]
      exact flt_not (by rw [hp]; rfl) ha R2 (by walk_at "sel") (by walk_at "drops")
  · intro D H2 R2
    walk_at "g"
    have e1 : (List.range (hs.map V.ref).length).filterMap (fun i => if s.partly i = true then some (V.int (i : Nat)) else none) = s.begun.map fun (k : Nat) => V.int k := by
      rw [List.length_map, hl, filterMap_if s.partly (fun (i : Nat) => V.int (i : Nat))]; rfl
    rw [e1] at R2
    -- the end: the page goes to block j
    have fin : ∀ (B : Addr) (ys : List V) (u v : Option V) (H5 : Hp) (G G' : List Cell), Rel H5 G → Sels ((B, raw (.lst (.int j :: ys))) :: lstC s p aH aT aN hs) G G' → Drops G' F →
        tSeq (sDAug (tVar 0) (tC (.str "stamp")) (tC (.int 1)) rAdd) (tSeq (tDrop (tBM K "list" rAppend (tOp (rIxL K) (tVar 2) (tOp (rIxL K) (tVar 3) (tC (.int 0)))) (tCons (tTup (tCons (tVar 1) (tCons (tDGet (tVar 0) (tC (.str "stamp"))) tNil))) tNil))) (sDPut (tDGet (tVar 0) (tC (.str "newest"))) (tVar 1) (tDGet (tVar 0) (tC (.str "stamp"))))) (endsOf Q) [some (.ref p), some (.int z), some (.ref aH), some (.ref B), u, v] H5 := by
      intro B ys u v H5 G G' R5 sg dg
      have R6 := R5.sels sg
      obtain ⟨a, ea⟩ : ∃ a, hs[j]? = some a := ⟨hs[j], by simp [show j < hs.length by omega]⟩
      obtain ⟨r, er⟩ : ∃ r, s.held[j]? = some r := ⟨s.held[j], by simp [hj]⟩
      have eD : s.row j = r := row_get er
      rw [eD] at hjr
      walk_at "g"
      refine daug_at (ks := lstK { s with stamp := s.stamp + 1 } aH aT aN) (Sum.inr "stamp") R6 (by walk_at "sel") rfl (m := s.stamp) (by kernel_rfl) (by simp) (by kernel_rfl) fun H7 R7 => ?_
      walk_at "g"
      refine ixL_at R7 (by walk_at "lst") (v := .int j) (atI_of (by omega) rfl) ?_
      walk_at "g"
      refine ixL_at R7 (by walk_at "lst") (v := .ref a) (atI_of (by omega) (by simp [ea])) ?_
      obtain ⟨A, R8, back⟩ := lblk_at (f := rowsO) R7 (by walk_at "sel") ea er
      obtain ⟨ts, htl, R9⟩ := ls_open R8 .here
      have htl2 : ts.length = r.length := by rw [htl, List.length_map]
      refine bm_lst R9 (xs := ts.map V.ref) (.raw .here) ?_
      walk_at "g"
      refine dget_at (Sum.inr "stamp") R9 (by walk_at "sel") rfl (v := .int (s.stamp + 1)) (by kernel_rfl) ?_
      walk_at "g"
      refine tup_new R9 (by simp) fun q HA RA => ?_
      walk_at "g"
      refine app_at (xs := ts.map V.ref) RA (by walk_at "sel") (by rw [List.length_map]; omega) fun HB RB => ?_
      have e : ts.map V.ref ++ [V.ref q] = (ts ++ [q]).map V.ref := by simp
      rw [e] at RB
      have RC := lblk_snoc (f := tupO) (a := q) (x := [.int z, .int (s.stamp + 1)]) RB (by walk_at "sel") (by walk_at "sel") htl
      have RD := ls_close (f := tupO) (a := a) (ss := ts ++ [q]) (xs := r.map pairV ++ [[.int z, .int (s.stamp + 1)]]) (by simp [htl]) RC (by walk_at "sel") (by walk_at "sel")
      have RE := back _ _ _ _ (r ++ [(z, s.stamp + 1)]) (by rw [show rowsO (r ++ [(z, s.stamp + 1)]) = tpsO (r.map pairV ++ [[.int z, .int (s.stamp + 1)]]) by unfold rowsO; rw [List.map_append]; rfl]; exact RD) .here (by walk_at "sel")
      walk_at "g"
      refine dget_at (Sum.inr "stamp") RE (by walk_at "sel") rfl (v := .int (s.stamp + 1)) (by kernel_rfl) ?_
      walk_at "g"
      refine dget_at (Sum.inr "newest") RE (by walk_at "sel") rfl (v := .ref aN) (by kernel_rfl) ?_
      walk_at "g"
      refine dput_at (Sum.inl z) RE (by walk_at "sel") rfl (by rw [List.length_map]; omega) (putK_putI s.newest z (s.stamp + 1)) fun HF RF => ?_
      have eb : s' = { s with held := s.held.set j (r ++ [(z, s.stamp + 1)]), stamp := s.stamp + 1, newest := putI s.newest z (s.stamp + 1) } := by rw [es', eD]
      have RG : Rel HF ((p, lstO s') :: G') := by
        rw [eb]
        exact (lst_close (s := { s with held := s.held.set j (r ++ [(z, s.stamp + 1)]), stamp := s.stamp + 1, newest := putI s.newest z (s.stamp + 1) }) (hs := hs) (by simp [hl]) RF (by walk_at "sels")).sels (cs := [_]) (by walk_at "sels") |>.fin (cs := [_]) (by walk_at "sels") (by walk_at "drops")
      exact k _ (Rel.drops (A := [_]) dg RG)
    refine lst_new R2 (by simp) fun q H3 R3 => ?_
    have hbl : DpAll K H3 (s.begun.map fun (k : Nat) => V.int k) ((s.begun.map fun (k : Nat) => some (k : Int)).map pyO) := by
      have := dp_opt (K := K) (H := H3) (s.begun.map fun (k : Nat) => some (k : Int))
      rw [List.map_map] at this
      exact this
    refine eqD_at (.lst (Rel.atl R3 (.there .here)) hbl) (.lst (Rel.atl R3 .here) .nil) (shaped_opt _) (shaped_opt []) ?_
    rw [eqv_nil, isEmpty_map', isEmpty_map']
    have hspot : s.spot = some j := hsp
    unfold LSt.spot at hspot
    cases hbg : s.begun with
    | cons j0 r0 =>
      rw [hbg] at hspot R3
      have : j0 = j := Option.some.inj hspot
      subst this
      walk_at "g"
      refine ite_f (by simp) ?_
      exact fin D _ _ _ H3 _ _ R3 (by walk_at "sels") (by walk_at "drops")
    | nil =>
      rw [hbg] at hspot R3
      walk_at "g"
      refine rng1_at (by omega) (by rw [List.length_map]; omega) ?_
      refine lcT (wk_range (n := (hs.map V.ref).length)) (fun i => if (s.row i).isEmpty = true then some (pairV (s.times.getD i 0, (i : Int))) else none) R3 (fun _ _ _ => trivial) ?_ ?_
      · rintro i x cs acc D2 H2 ts hi ha hts ⟨rfl, rfl⟩ R2
        rw [List.length_map] at hi
        obtain ⟨a, ea⟩ : ∃ a, hs[i]? = some a := ⟨hs[i], by simp [hi]⟩
        obtain ⟨st, es⟩ : ∃ st, s.held[i]? = some st := ⟨s.held[i]'(by omega), by simp [show i < s.held.length by omega]⟩
        obtain ⟨tm, et⟩ : ∃ tm, s.times[i]? = some tm := ⟨s.times[i]'(by omega), by simp [show i < s.times.length by omega]⟩
        have eD : s.row i = st := row_get es
        have eT : s.times.getD i 0 = tm := BenchM.getD_of et
        have e0 : (0 : Int) + i = (i : Int) := Int.zero_add _
        rw [e0]
        walk_at "g"
        refine ⟨rfl, ?_⟩
        walk_at "g"
        refine ixL_at R2 (by walk_at "lst") (v := .ref a) (atI_of (by omega) (by simp [ea])) ?_
        walk_at "g"
        refine lst_new R2 (by simp) fun q H3 R3 => ?_
        obtain ⟨A, R4, _⟩ := lblk_at (f := rowsO) R3 (by walk_at "sel") ea es
        refine eqD_at (dp_rows R4 .here) (dp_nil R4 (by walk_at "sel")) (shaped_pairs st) (shaped_pairs []) ?_
        rw [eqv_nil, isEmpty_map']
        walk_at "g"
        refine ite_b (fun h1 => ?_) fun h1 => ?_
        · walk_at "g"
          refine dget_at (Sum.inr "times") R3 (by walk_at "sel") rfl (v := .ref aT) (by kernel_rfl) ?_
          walk_at "g"
          refine ixL_at R3 (by walk_at "lst") (v := .int tm) (atI_of (by omega) (by simp [et])) ?_
          walk_at "g"
          refine tup_new R3 (by simp) fun t H5 R5 => ?_
          exact fltT_put (y := pairV (tm, (i : Int))) (by rw [eD, eT, h1]; rfl) (by omega) ha hts R5 (by walk_at "sels") (by walk_at "drops")
        · exact fltT_not (by rw [eD, h1]; rfl) ha hts R3 (by walk_at "sels") (by walk_at "drops")
      · intro D2 H4 R4
        walk_at "g"
        have e : (List.range (hs.map V.ref).length).filterMap (fun i => if (s.row i).isEmpty = true then some (pairV (s.times.getD i 0, (i : Int))) else none) = s.emptyPairs.map pairV := by
          rw [List.length_map, hl]
          unfold LSt.emptyPairs LSt.empties
          rw [filterMap_if (fun i => (s.row i).isEmpty) (fun (i : Nat) => pairV (s.times.getD i 0, (i : Int))), List.map_map]; rfl
        rw [e] at R4
        refine sortedPO_at R4 .here fun q2 H5 R5 => ?_
        walk_at "g"
        obtain ⟨ts, htl, R6⟩ := ls_open R5 .here
        cases hsr : srtP s.emptyPairs with
        | nil => rw [hsr] at hspot; cases hspot
        | cons pr rs =>
          rw [hsr] at hspot R6 htl
          have hj2 : pr.2.toNat = j := Option.some.inj hspot
          have hpr : pr.2 = (j : Int) := by
            have hq : pr ∈ s.emptyPairs := (srtP_perm _).mem_iff.mp (by rw [hsr]; exact List.mem_cons_self)
            obtain ⟨n, hn, rfl⟩ := List.mem_map.mp hq
            have : ((n : Int)).toNat = j := hj2
            rw [Int.toNat_natCast] at this
            rw [← this]
          obtain ⟨t, et⟩ : ∃ t, ts[0]? = some t := ⟨ts[0]'(by rw [htl]; simp), by simp [show 0 < ts.length by rw [htl]; simp]⟩
          obtain ⟨A, R7, _⟩ := lblk_at (f := tupO) R6 (by walk_at "sel") et (x := [.int pr.1, .int pr.2]) (by rfl)
          refine ixL_at R6 (by walk_at "lst") (v := .ref t) (atI_of (by omega) (by simp [et])) ?_
          walk_at "g"
          refine ixT_at R7 .here (v := .int pr.2) (atI_of (by omega) rfl) ?_
          walk_at "g"
          refine lst_new R6 (by simp) fun B H8 R8 => ?_
          rw [hpr] at R8
          exact fin B [] _ _ H8 _ _ R8 (by walk_at "sels") (by walk_at "drops")
end
section
variable {K : PySem.W.Frag} {vs : List V} {H : Hp} {Q : VK} {E : XK} {L L' : List Cell} {a : Addr}
namespace LSt
theorem putAll_append : ∀ (l m : List Int) (s : LSt), putAll (l ++ m) s = (putAll l s).bind (putAll m)
  | [], m, s => rfl
  | z :: l, m, s => by
    show (s.put z).bind (putAll (l ++ m)) = ((s.put z).bind (putAll l)).bind (putAll m)
    cases s.put z with
    | none => rfl
    | some s1 => exact putAll_append l m s1
theorem live_len (s : LSt) (k : Nat) : (s.live k).length ≤ (s.row k).length := by
  unfold live; rw [List.length_map]; exact List.length_filter_le _ _
theorem row_len {s : LSt} (ok : s.ok) (k : Nat) : ((s.row k).length : Int) ≤ s.pages := by
  unfold row
  rw [List.getD_eq_getElem?_getD]
  cases h : s.held[k]? with
  | none => have := ok.1; simp; omega
  | some r => exact ok.2.2.2.2.1 r (List.mem_of_getElem? h)
theorem cleared_ok {s s' : LSt} {k : Nat} (ok : s.ok) (hs : s.stamp ≤ 800) (h : s.cleared k = some s') : s'.ok ∧ s'.stamp = s.stamp + (s.live k).length ∧ s'.pages = s.pages ∧ s'.held.length = s.held.length := by
  unfold cleared at h
  obtain ⟨s1, h1, rfl⟩ := Option.map_eq_some_iff.mp h
  have : ∀ (l : List Int) (s s1 : LSt), s.ok → s.stamp + l.length ≤ 1000 → putAll l s = some s1 → s1.ok ∧ s1.stamp = s.stamp + l.length ∧ s1.pages = s.pages ∧ s1.held.length = s.held.length := by
    intro l
    induction l with
    | nil => intro s s1 ok _ e; cases Option.some.inj e; exact ⟨ok, by simp, rfl, rfl⟩
    | cons z l ih =>
      intro s s1 ok hs e
      rw [List.length_cons] at hs
      obtain ⟨s2, e1, e2⟩ := Option.bind_eq_some_iff.mp (show (s.put z).bind (putAll l) = some s1 from e)
      obtain ⟨p1, p2, p3, p4⟩ := put_ok ok (by omega) e1
      obtain ⟨q1, q2, q3, q4⟩ := ih s2 s1 p1 (by omega) e2
      exact ⟨q1, by rw [List.length_cons]; omega, q3.trans p3, q4.trans p4⟩
  have hr := row_len ok k
  have hl := live_len s k
  have hp := ok.2.1
  obtain ⟨p1, p2, p3, p4⟩ := this _ s s1 ok (by omega) h1
  obtain ⟨o1, o2, o3, o4, o5, o6, o7, o8⟩ := p1
  refine ⟨⟨o1, o2, by simpa using o3, by simpa using o4, fun r hr => ?_, o6, o7, fun r hr => ?_⟩, p2, p3, by simp [p4]⟩
  · rcases List.mem_or_eq_of_mem_set hr with h | rfl
    · exact o5 r h
    · show ((0 : Nat) : Int) ≤ s1.pages; omega
  · rcases List.mem_or_eq_of_mem_set hr with h | rfl
    · exact o8 r h
    · intro q hq; cases hq
end LSt
theorem pure__law_ways (h : sp__law_ways K vs H Q E) : t__law_ways K (endsOf Q) (start ["_law_state", "_law_found", "_law_block", "_law_row"] vs) H := by
  obtain ⟨pre, F, R, p, s, rfl, rfl, ok, k⟩ := h.use
  obtain ⟨o1, o2, o3, o4, o5, o6, o7, o8⟩ := id ok
  obtain ⟨aH, aT, aN, hs, hl, R1⟩ := lst_open R .here
  unfold t__law_ways
  walk_at "g"
  refine lst_new R1 (by simp) fun D H1 R2 => ?_
  walk_at "g"
  refine dget_at (Sum.inr "held") R2 (by walk_at "sel") rfl (v := .ref aH) (by kernel_rfl) ?_
  walk_at "g"
  refine forJ (wk_enum (xs := hs.map V.ref)) (fun i σ L => (∃ u v, σ = [some (.ref p), some (.ref D), u, v]) ∧ L = (D, raw (.lst ((List.range i).filterMap fun i => if s.way i = true then some (V.int (i : Nat)) else none))) :: (lstC s p aH aT aN hs ++ F)) R2 ⟨⟨_, _, rfl⟩, rfl⟩ (fun i σ L _ ⟨_, e⟩ => ?_) ?_ ?_
  · subst e
    walk_at "lst"
  · rintro i x cs σ H2 L hi ⟨⟨u, v, rfl⟩, rfl⟩ ⟨t, y, hy, rfl, rfl⟩ R2
    rw [List.length_map] at hi
    obtain ⟨a, ea⟩ : ∃ a, hs[i]? = some a := ⟨hs[i], by simp [hi]⟩
    obtain ⟨r, er⟩ : ∃ r, s.held[i]? = some r := ⟨s.held[i]'(by omega), by simp [show i < s.held.length by omega]⟩
    have eD : s.row i = r := row_get er
    have ey : y = .ref a := by rw [List.getElem?_map, ea] at hy; exact (Option.some.inj hy).symm
    subst ey
    have no : ∀ {H2 : Hp} {G G' : List Cell}, s.way i = false → Rel H2 G → Sels ((D, raw (.lst ((List.range i).filterMap fun i => if s.way i = true then some (V.int (i : Nat)) else none))) :: lstC s p aH aT aN hs) G G' → Drops G' F → InvS (fun σ L => (∃ u v, σ = [some (.ref p), some (.ref D), u, v]) ∧ L = (D, raw (.lst ((List.range (i + 1)).filterMap fun i => if s.way i = true then some (V.int (i : Nat)) else none))) :: (lstC s p aH aT aN hs ++ F)) [some (.ref p), some (.ref D), some (.int i), some (.ref a)] H2 := by
      intro H2 G G' hf R' sg dg
      have e : (List.range (i + 1)).filterMap (fun i => if s.way i = true then some (V.int (i : Nat)) else none) = (List.range i).filterMap fun i => if s.way i = true then some (V.int (i : Nat)) else none := by
        rw [List.range_succ, List.filterMap_append]; simp [hf]
      exact inv_s (cs := (D, raw (.lst ((List.range i).filterMap fun i => if s.way i = true then some (V.int (i : Nat)) else none))) :: lstC s p aH aT aN hs) ⟨⟨_, _, rfl⟩, by rw [e]; rfl⟩ R' sg dg
    walk_at "g"
    obtain ⟨A, R3, _⟩ := lblk_at (f := rowsO) R2 (by walk_at "sel") ea er
    refine len_row R3 .here ?_
    walk_at "g"
    refine dget_at (Sum.inr "pages") R2 (by walk_at "sel") rfl (v := .int s.pages) (by kernel_rfl) ?_
    walk_at "g"
    refine go_eq rfl ?_
    walk_at "g"
    refine ite_d (fun h1 => ?_) fun h1 => ?_
    · have h1' := V.int.inj h1
      walk_at "g"
      refine SpS.call R2 (by walk_at "sels") ⟨p, s, i, aH, aT, aN, hs, rfl, rfl, hl, ok, by omega, fun q H4 R4 => ?_⟩
      walk_at "g"
      obtain ⟨A, R5, _⟩ := lblk_at (f := rowsO) R4 (by walk_at "sel") ea er
      refine len_row R5 .here ?_
      walk_at "g"
      have hlm : ((s.live i).map V.int).length = (s.live i).length := List.length_map _
      refine ite_d (fun h2 => ?_) fun h2 => ?_ <;> rw [hlm] at h2
      · have hw : s.way i = true := by unfold LSt.way; rw [eD, decide_eq_true h1', decide_eq_true (show (s.live i).length < r.length by omega)]; rfl
        walk_at "g"
        refine app_at R4 (by walk_at "sel") (by have := List.length_filterMap_le (fun i => if s.way i = true then some (V.int (i : Nat)) else none) (List.range i); rw [List.length_range] at this; omega) fun H5 R6 => ?_
        walk_at "g"
        have e : (List.range (i + 1)).filterMap (fun i => if s.way i = true then some (V.int (i : Nat)) else none) = (List.range i).filterMap (fun i => if s.way i = true then some (V.int (i : Nat)) else none) ++ [V.int (i : Nat)] := by
          rw [List.range_succ, List.filterMap_append]; simp [hw]
        rw [← e] at R6
        walk_at "inv"
        exact inv_s (cs := (D, raw (.lst ((List.range (i + 1)).filterMap fun i => if s.way i = true then some (V.int (i : Nat)) else none))) :: lstC s p aH aT aN hs) ⟨⟨_, _, rfl⟩, rfl⟩ R6 (by walk_at "sels") (by walk_at "drops")
      · have hw : s.way i = false := by unfold LSt.way; rw [eD, decide_eq_false (show ¬ (s.live i).length < r.length by omega), Bool.and_false]
        walk_at "g"
        exact no hw R4 (by walk_at "sels") (by walk_at "drops")
    · have hw : s.way i = false := by unfold LSt.way; rw [eD, decide_eq_false (fun z => h1 (congrArg V.int z)), Bool.false_and]
      walk_at "g"
      exact no hw R2 (by walk_at "sels") (by walk_at "drops")
  · rintro σ H2 L R2 ⟨⟨u, v, rfl⟩, rfl⟩
    have e : (List.range (hs.map V.ref).length).filterMap (fun i => if s.way i = true then some (V.int (i : Nat)) else none) = s.ways.map fun (k : Nat) => V.int k := by
      rw [List.length_map, hl, filterMap_if s.way (fun (i : Nat) => V.int (i : Nat))]; rfl
    rw [e] at R2
    walk_at "g"
    exact k D _ ((lst_close hl R2 (by walk_at "sels")).fin (by walk_at "sels") (by walk_at "drops"))
theorem pure__law_cleared_out (h : sp__law_cleared_out K vs H Q E) : t__law_cleared_out K (endsOf Q) (start ["_law_state", "_law_block", "_law_moved", "_law_sheet"] vs) H := by
  obtain ⟨pre, F, R, p, s, s', j, rfl, rfl, ok, hst, hj, hc, k⟩ := h.use
  obtain ⟨o1, o2, o3, o4, o5, o6, o7, o8⟩ := id ok
  obtain ⟨s1, hc1, hc2⟩ := Option.map_eq_some_iff.mp (show (LSt.putAll (s.live j) s).map _ = some s' from hc)
  obtain ⟨aH, aT, aN, hs, hl, R1⟩ := lst_open R .here
  have hrl := LSt.row_len ok j
  have hll := LSt.live_len s j
  unfold t__law_cleared_out
  walk_at "g"
  refine SpS.call R1 (by walk_at "sels") ⟨p, s, j, aH, aT, aN, hs, rfl, rfl, hl, ok, hj, fun q H4 R4 => ?_⟩
  have R5 := lst_close hl R4 (by walk_at "sels")
  have R6 : Rel H4 ((p, lstO s) :: (q, raw (.lst ((s.live j).map V.int))) :: F) := R5.fin (cs := [_, _]) (by walk_at "sels") (by walk_at "drops")
  clear R5 R4 R1 hl hs aH aT aN
  walk_at "g"
  refine forJ (wk_list (xs := (s.live j).map V.int)) (fun i σ L => ∃ si u, σ = [some (.ref p), some (.int j), some (.ref q), u] ∧ LSt.putAll ((s.live j).drop i) si = some s1 ∧ si.ok ∧ si.stamp = s.stamp + i ∧ si.pages = s.pages ∧ si.held.length = s.held.length ∧ L = (p, lstO si) :: (q, raw (.lst ((s.live j).map V.int))) :: F) R6 ⟨s, _, rfl, by rw [List.drop_zero]; exact hc1, ok, by simp, rfl, rfl, rfl⟩ (fun i σ L _ ⟨_, _, _, _, _, _, _, _, e⟩ => ?_) ?_ ?_
  · subst e
    walk_at "lst"
  · rintro i x cs σ H2 L hi ⟨si, u, rfl, h1, h2, h3, h4, h5, rfl⟩ ⟨hx, rfl⟩ R7
    rw [List.length_map] at hi
    have hx2 : x = .int ((s.live j)[i]) := by
      rw [List.getElem?_map, List.getElem?_eq_getElem hi] at hx
      exact (Option.some.inj hx).symm
    subst hx2
    rw [List.drop_eq_getElem_cons hi] at h1
    obtain ⟨s2, e1, e2⟩ := Option.bind_eq_some_iff.mp (show (si.put ((s.live j)[i])).bind (LSt.putAll ((s.live j).drop (i + 1))) = some s1 from h1)
    obtain ⟨p1, p2, p3, p4⟩ := LSt.put_ok h2 (by omega) e1
    walk_at "g"
    refine SpS.call R7 (by walk_at "sels") ⟨p, si, s2, _, rfl, rfl, h2, e1, fun H8 R8 => ?_⟩
    walk_at "g"
    walk_at "inv"
    exact inv_s ⟨s2, _, rfl, e2, p1, by omega, p3.trans h4, p4.trans h5, rfl⟩ R8 (by walk_at "sels") (by walk_at "drops")
  · rintro σ H2 L R7 ⟨si, u, rfl, h1, h2, h3, h4, h5, rfl⟩
    rw [List.length_map, List.drop_length] at h1
    cases Option.some.inj h1
    clear R6
    obtain ⟨aH, aT, aN, hs, hl, R8⟩ := lst_open R7 .here
    obtain ⟨m1, m2, m3, m4, m5, m6, m7, m8⟩ := id h2
    obtain ⟨a, ea⟩ : ∃ a, hs[j]? = some a := ⟨hs[j], by simp [show j < hs.length by omega]⟩
    obtain ⟨r, er⟩ : ∃ r, s1.held[j]? = some r := ⟨s1.held[j], by simp [show j < s1.held.length by omega]⟩
    walk_at "g"
    refine lst_new R8 (by simp) fun b H9 R9 => ?_
    walk_at "g"
    refine dget_at (Sum.inr "held") R9 (by walk_at "sel") rfl (v := .ref aH) (by kernel_rfl) ?_
    walk_at "g"
    refine sub_at (j := j) R9 (by walk_at "sel") (by rw [ixN_of (by omega) (by rw [List.length_map]; omega)]; simp) fun H10 R10 => ?_
    walk_at "g"
    refine dget_at (Sum.inr "times") R10 (by walk_at "sel") rfl (v := .ref aT) (by kernel_rfl) ?_
    walk_at "g"
    refine aug_at (j := j) (m := s1.times.getD j 0) R10 (by walk_at "sel") (by rw [ixN_of (by omega) (by rw [List.length_map]; omega)]; simp) ?_ fun H12 R12 => ?_
    · rw [List.getElem?_map]
      have : j < s1.times.length := by omega
      simp [List.getD_eq_getElem?_getD, this]
    walk_at "g"
    have R12 : Rel H12 ((b, rowsO []) :: _) := ls_close (f := tupO) (xs := []) (ss := []) rfl (lblk_nil R12) (by walk_at "sel") .here
    have R13 := lblk_repl (f := rowsO) (q := b) (y := []) R12 (by walk_at "sel") (by walk_at "sel") ea er
    have e1 : (hs.map V.ref).set j (.ref b) = (hs.set j b).map V.ref := by rw [List.map_set]
    have e2 : (s1.times.map V.int).set j (.int (s1.times.getD j 0 + 1)) = (s1.times.set j (s1.times.getD j 0 + 1)).map V.int := by rw [List.map_set]
    rw [e1, e2] at R13
    subst hc2
    have R14 := lst_close (s := { s1 with held := s1.held.set j [], times := s1.times.set j (s1.times.getD j 0 + 1) }) (p := p) (hs := hs.set j b) (by simp [hl]) R13 (by walk_at "sels")
    rw [List.length_map]
    exact k _ (R14.fin (by walk_at "sels") (by walk_at "drops"))
end
section
variable {K : PySem.W.Frag} {vs : List V} {H : Hp} {Q : VK} {E : XK} {L L' : List Cell} {a : Addr}
theorem LSt.new_ok {n : Nat} {pages : Int} (hn : n ≤ 4) (h1 : 1 ≤ pages) (h2 : pages ≤ 3) : (LSt.new n pages).ok := by
  refine ⟨h1, by show pages ≤ 100; omega, by simp [LSt.new], by simp [LSt.new]; omega, fun r hr => ?_, by simp [LSt.new], by simp [LSt.new], fun r hr q hq => ?_⟩
  · rw [List.eq_of_mem_replicate hr]; show ((0 : Nat) : Int) ≤ pages; omega
  · rw [List.eq_of_mem_replicate hr] at hq; cases hq
theorem pure__law_way (h : sp__law_way K vs H Q E) : t__law_way K (endsOf Q) (start ["_law_blocks", "_law_pages", "_law_row", "_law_picks", "_law_state", "_law_moves", "_law_chosen", "_law_sheet", "_law_ways_here", "_law_block"] vs) H := by
  obtain ⟨pre, F, R, r, c, n, pages, row, picks, m, cs, rfl, rfl, hn, hp1, hp3, hrow, hrun, k⟩ := h.use
  unfold t__law_way
  walk_at "g"
  refine SpS.call (pre := []) (F := [(r, seqO K (row.map V.int)), (c, seqO K (picks.map V.int))] ++ F) R .nil ⟨n, pages, rfl, rfl, by omega, fun p H1 R1 => ?_⟩
  have R1 : Rel H1 ((p, lstO (.new n pages)) :: (r, seqO K (row.map V.int)) :: (c, seqO K (picks.map V.int)) :: F) := R1
  walk_at "g"
  refine lst_new R1 (by simp) fun D H2 R2 => ?_
  have R2 : Rel H2 ((p, lstO (.new n pages)) :: (D, raw (.lst (([] : List Int).map V.int))) :: (r, seqO K (row.map V.int)) :: (c, seqO K (picks.map V.int)) :: F) := R2.fin (cs := [_, _]) (by walk_at "sels") (by walk_at "drops")
  walk_at "g"
  refine forJ (wk_list (xs := row.map V.int)) (fun i σ L => ∃ (s : LSt) (m1 : Int) (cs1 : List Int) (u v w : Option V), σ = [some (.int n), some (.int pages), some (.ref r), some (.ref c), some (.ref p), some (.int m1), some (.ref D), u, v, w] ∧ LSt.run picks (row.drop i) s m1 cs1 = some (m, cs) ∧ s.ok ∧ s.pages = pages ∧ s.stamp ≤ 4 * i ∧ cs1.length ≤ i ∧ L = (p, lstO s) :: (D, raw (.lst (cs1.map V.int))) :: (r, seqO K (row.map V.int)) :: (c, seqO K (picks.map V.int)) :: F) R2 ⟨_, 0, [], _, _, _, rfl, by rw [List.drop_zero]; exact hrun, LSt.new_ok hn hp1 hp3, rfl, by simp [LSt.new], by simp, rfl⟩ (fun i σ L _ ⟨_, _, _, _, _, _, _, _, _, _, _, _, e⟩ => ?_) ?_ ?_
  · subst e
    walk_at "lst"
  · rintro i x ds σ H3 L hi ⟨s, m1, cs1, u, v, w, rfl, h1, ok, hpg, hst, hcl, rfl⟩ ⟨hx, rfl⟩ R3
    rw [List.length_map] at hi
    have hx2 : x = .int row[i] := by
      rw [List.getElem?_map, List.getElem?_eq_getElem hi] at hx
      exact (Option.some.inj hx).symm
    subst hx2
    rw [List.drop_eq_getElem_cons hi] at h1
    unfold LSt.run at h1
    walk_at "g"
    refine SpS.call R3 (by walk_at "sels") ⟨p, s, rfl, rfl, ok, fun H4 R4 => ?_⟩
    walk_at "g"
    cases hsh : s.short with
    | true =>
      rw [hsh, if_pos rfl] at h1
      by_cases hw0 : s.ways = []
      · rw [if_pos hw0] at h1; cases h1
      rw [if_neg hw0] at h1
      obtain ⟨pk, hpk, h1⟩ := Option.bind_eq_some_iff.mp h1
      obtain ⟨j, hj, h1⟩ := Option.bind_eq_some_iff.mp h1
      obtain ⟨s1, hs1, h1⟩ := Option.bind_eq_some_iff.mp h1
      obtain ⟨s2, hs2, h1⟩ := Option.bind_eq_some_iff.mp h1
      have hlive := LSt.live_len s j
      have hrl := LSt.row_len ok j
      have hjm : j ∈ s.ways := List.mem_of_getElem? hj
      have hjl : j < s.held.length := by
        unfold LSt.ways at hjm
        exact List.mem_range.mp (List.mem_filter.mp hjm).1
      obtain ⟨p1, p2, p3, p4⟩ := LSt.cleared_ok ok (by omega) hs1
      obtain ⟨q1, q2, q3, q4⟩ := LSt.put_ok p1 (by omega) hs2
      have hwl : 0 < s.ways.length := List.length_pos_iff.mpr hw0
      refine ite_t rfl ?_
      walk_at "g"
      refine SpS.call R4 (by walk_at "sels") ⟨p, s, rfl, rfl, ok, fun q H5 R5 => ?_⟩
      walk_at "g"
      refine ixL_at R5 (by walk_at "lst") (v := .int pk) (atI_of (by omega) (by simpa using hpk)) ?_
      walk_at "g"
      rw [List.length_map]
      refine go_I (by omega) ?_
      have hjx : (pk % (s.ways.length : Int)).toNat < s.ways.length := by
        have h1 := Int.emod_nonneg pk (show (s.ways.length : Int) ≠ 0 by omega)
        have h2 := Int.emod_lt_of_pos pk (show (0 : Int) < s.ways.length by omega)
        omega
      refine ixL_at R5 (by walk_at "lst") (v := .int j) (atI_of (Int.emod_nonneg pk (show (s.ways.length : Int) ≠ 0 by omega)) (by rw [List.getElem?_map, hj]; rfl)) ?_
      walk_at "g"
      refine SpS.call R5 (by walk_at "sels") ⟨p, s, s1, j, rfl, rfl, ok, by omega, hjl, hs1, fun H6 R6 => ?_⟩
      walk_at "g"
      refine app_at R6 (by walk_at "sel") (by rw [List.length_map]; omega) fun H7 R7 => ?_
      have e7 : cs1.map V.int ++ [V.int (j : Int)] = (cs1 ++ [(j : Int)]).map V.int := by simp
      rw [e7] at R7
      walk_at "g"
      refine SpS.call R7 (by walk_at "sels") ⟨p, s1, s2, _, rfl, rfl, p1, hs2, fun H8 R8 => ?_⟩
      walk_at "g"
      walk_at "inv"
      exact inv_s (cs := [_, _, _, _]) ⟨s2, m1 + (s.live j).length, cs1 ++ [(j : Int)], _, _, _, rfl, h1, q1, q3.trans (p3.trans hpg), by omega, by rw [List.length_append, List.length_singleton]; omega, rfl⟩ R8 (by walk_at "sels") (by walk_at "drops")
    | false =>
      rw [hsh, if_neg (by simp)] at h1
      obtain ⟨s2, hs2, h1⟩ := Option.bind_eq_some_iff.mp h1
      obtain ⟨q1, q2, q3, q4⟩ := LSt.put_ok ok (by omega) hs2
      refine ite_f rfl ?_
      walk_at "g"
      refine SpS.call R4 (by walk_at "sels") ⟨p, s, s2, _, rfl, rfl, ok, hs2, fun H8 R8 => ?_⟩
      walk_at "g"
      walk_at "inv"
      exact inv_s (cs := [_, _, _, _]) ⟨s2, m1, cs1, _, _, _, rfl, h1, q1, q3.trans hpg, by omega, by omega, rfl⟩ R8 (by walk_at "sels") (by walk_at "drops")
  · rintro σ H3 L R3 ⟨s, m1, cs1, u, v, w, rfl, h1, ok, hpg, hst, hcl, rfl⟩
    rw [List.length_map, List.drop_length] at h1
    cases Option.some.inj h1
    walk_at "g"
    refine tup_new R3 (by simp) fun t H4 R4 => ?_
    walk_at "g"
    exact k t D _ (R4.fin (by walk_at "sels") (by walk_at "drops"))
end
/-! ### `<` of data that are alike -/
def rLtD (K : PySem.W.Frag) : R2 := fun x y H Q => ∃ d e, Dp K H x d ∧ Dp K H y e ∧ PySem.W.alike d e = true ∧ d ≠ .none ∧ d.depth ≤ 60 ∧ Q (.bl (PySem.W.dataLt d e)) H
theorem op_ltD {X : Cx} (hu : X.A.units + 64 < cLine) : OpR X (compareOp .Lt) (rLtD X.K) := by
  intro pins s σ H x y v u Q I rx ry h
  obtain ⟨d, e, hd, he, ha, hn, hdp, q⟩ := h
  obtain ⟨as, r1⟩ := Dp.reads I d x v hd rx
  obtain ⟨bs, r2⟩ := Dp.reads I e y u he ry
  exact PySem.W.rcLt_alike d e X.A s v u as bs r1 r2 ha hn (by omega) _ _ _ _ ⟨.bl _, H, I, rfl, q⟩
theorem ltD_at {K : PySem.W.Frag} {x y : V} {H : Hp} {Q : VK} {d e : PyData} (h1 : Dp K H x d) (h2 : Dp K H y e) (h3 : PySem.W.alike d e = true) (h4 : d ≠ .none) (h5 : d.depth ≤ 60) (q : Q (.bl (PySem.W.dataLt d e)) H) : rLtD K x y H Q := ⟨d, e, h1, h2, h3, h4, h5, q⟩
def ltL : List Int → List Int → Bool
  | [], [] => false
  | [], _ :: _ => true
  | _ :: _, [] => false
  | x :: xs, y :: ys => if x = y then ltL xs ys else decide (x < y)
def ltP (a b : Int × List Int) : Bool := if a.1 = b.1 then ltL a.2 b.2 else decide (a.1 < b.1)
def wayD (a : Int × List Int) : PyData := .tuple [.int a.1, .list (a.2.map PyData.int)]
theorem eqv_int (x y : Int) : PyData.eqv (.int x) (.int y) = decide (x = y) := by
  by_cases h : x = y
  · subst h; simp [PyData.eqv]
  · simp [PyData.eqv, h]
theorem alike_ints : ∀ xs ys : List Int, PySem.W.alikeAll (xs.map PyData.int) (ys.map PyData.int) = true
  | [], _ => by simp [PySem.W.alikeAll]
  | _ :: _, [] => by simp [PySem.W.alikeAll]
  | x :: xs, y :: ys => by
    show PySem.W.alikeAll (.int x :: xs.map PyData.int) (.int y :: ys.map PyData.int) = true
    rw [PySem.W.alikeAll, alike_ints xs ys]; simp [PySem.W.alike]
theorem lt_ints : ∀ xs ys : List Int, PyProof.Rows.lexLt PyProof.Rows.itemOrd (PySem.W.keyToksAll (xs.map PyData.int)) (PySem.W.keyToksAll (ys.map PyData.int)) = ltL xs ys
  | [], [] => by decide +kernel
  | [], y :: ys => by
    show PyProof.Rows.lexLt PyProof.Rows.itemOrd (PySem.W.keyToksAll []) (PySem.W.keyToksAll (.int y :: ys.map PyData.int)) = true
    rw [PySem.W.toks_all_cons]
    simp only [PySem.W.keyToksAll]
    rw [PySem.W.lex_atom (by simp)]
    decide +kernel
  | x :: xs, [] => by
    show PyProof.Rows.lexLt PyProof.Rows.itemOrd (PySem.W.keyToksAll (.int x :: xs.map PyData.int)) (PySem.W.keyToksAll []) = false
    rw [PySem.W.toks_all_cons]
    simp only [PySem.W.keyToksAll]
    rw [PySem.W.lex_atom (by simp)]
    decide +kernel
  | x :: xs, y :: ys => by
    show PyProof.Rows.lexLt PyProof.Rows.itemOrd (PySem.W.keyToksAll (.int x :: xs.map PyData.int)) (PySem.W.keyToksAll (.int y :: ys.map PyData.int)) = ltL (x :: xs) (y :: ys)
    have ha : PySem.W.alike (.int x) (.int y) = true := by simp [PySem.W.alike]
    unfold ltL
    by_cases h : x = y
    · rw [PySem.W.dataLt_all_yes ha (by rw [eqv_int, decide_eq_true h]), lt_ints xs ys, if_pos h]
    · rw [PySem.W.dataLt_all_no ha (by rw [eqv_int, decide_eq_false h]), PySem.W.dataLt_int, if_neg h]
theorem eqv_ints : ∀ xs ys : List Int, PyData.eqvAll (xs.map PyData.int) (ys.map PyData.int) = decide (xs = ys)
  | [], [] => by simp [PyData.eqvAll]
  | [], _ :: _ => by simp [PyData.eqvAll]
  | _ :: _, [] => by simp [PyData.eqvAll]
  | x :: xs, y :: ys => by
    show PyData.eqvAll (.int x :: xs.map PyData.int) (.int y :: ys.map PyData.int) = _
    rw [PySem.W.eqv_all_cons, eqv_int, eqv_ints xs ys]
    by_cases h1 : x = y <;> by_cases h2 : xs = ys <;> simp [h1, h2]
theorem alike_way (a b : Int × List Int) : PySem.W.alike (wayD a) (wayD b) = true := by
  unfold wayD
  simp [PySem.W.alike, PySem.W.alikeAll, alike_ints]
theorem ltL_self : ∀ xs : List Int, ltL xs xs = false
  | [] => rfl
  | x :: xs => by unfold ltL; rw [if_pos rfl]; exact ltL_self xs
theorem dataLt_way (a b : Int × List Int) : PySem.W.dataLt (wayD a) (wayD b) = ltP a b := by
  unfold wayD ltP
  rw [PySem.W.dataLt_tuple]
  have ha : PySem.W.alike (.int a.1) (.int b.1) = true := by simp [PySem.W.alike]
  by_cases h : a.1 = b.1
  · rw [PySem.W.dataLt_all_yes ha (by rw [eqv_int, decide_eq_true h]), if_pos h]
    have hb : PySem.W.alike (.list (a.2.map PyData.int)) (.list (b.2.map PyData.int)) = true := by simp [PySem.W.alike, alike_ints]
    by_cases h2 : a.2 = b.2
    · rw [PySem.W.dataLt_all_yes hb (by rw [h2]; exact PySem.W.eqv_refl_alike _ (by simp [PySem.W.alike, alike_ints])), h2, ltL_self]
      decide +kernel
    · rw [PySem.W.dataLt_all_no hb (by show PyData.eqv _ _ = false; rw [show PyData.eqv (.list (a.2.map PyData.int)) (.list (b.2.map PyData.int)) = PyData.eqvAll (a.2.map PyData.int) (b.2.map PyData.int) by simp [PyData.eqv], eqv_ints, decide_eq_false h2]), PySem.W.dataLt_list, lt_ints]
  · rw [PySem.W.dataLt_all_no ha (by rw [eqv_int, decide_eq_false h]), PySem.W.dataLt_int, if_neg h]
theorem dpAll_ints {K : PySem.W.Frag} {H : Hp} : ∀ l : List Int, DpAll K H (l.map V.int) (l.map PyData.int)
  | [] => .nil
  | i :: l => .cons (.int i) (dpAll_ints l)
theorem depth_ints : ∀ l : List Int, PyData.depthAll (l.map PyData.int) = 0
  | [] => rfl
  | i :: l => by
    show max (PyData.depth (.int i)) (PyData.depthAll (l.map PyData.int)) = 0
    rw [depth_ints l]; rfl
theorem depth_way (a : Int × List Int) : (wayD a).depth ≤ 60 := by
  unfold wayD
  have h := depth_ints a.2
  have h1 : (PyData.list (a.2.map PyData.int)).depth = PyData.depthAll (a.2.map PyData.int) + 1 := rfl
  have h2 : (PyData.tuple [.int a.1, .list (a.2.map PyData.int)]).depth = PyData.depthAll [.int a.1, .list (a.2.map PyData.int)] + 1 := rfl
  have h3 : PyData.depthAll [.int a.1, .list (a.2.map PyData.int)] = max 0 (max (PyData.list (a.2.map PyData.int)).depth 0) := rfl
  omega
theorem dp_way {K : PySem.W.Frag} {H : Hp} {L L1 L2 : List Cell} {t l : Addr} {m : Int} {cs : List Int} (R : Rel H L) (s : Sel (t, tupO [.int m, .ref l]) L L1) (s2 : Sel (l, raw (.lst (cs.map V.int))) L L2) : Dp K H (.ref t) (wayD (m, cs)) :=
  .tup (.inl (.inl (R.tup s))) (.cons (.int _) (.cons (.lst (.inl (.inl (R.at s2))) (dpAll_ints cs)) .nil))
/-! ### what the script draws -/
def drawnF (ns : List Int) (k : Nat) : Int :=
  if k < ns.length then ns.getD k 0
  else (fun u : Int => u * u % 2147483579) (if 0 < ns.length then (ns.getD ((k * 3) % ns.length) 0 * 69621 + (30269 * k + 17)) % 2147483629 else 30269 * k + 17)
namespace Race
def b0 (ns : List Int) : Int := 2 + drawnF ns 0 % 3
def p0 (ns : List Int) : Int := 1 + drawnF ns 1 % 3
def blocks (ns : List Int) : Int := if (b0 ns - 1) * p0 ns < 3 then 3 else b0 ns
def pages (ns : List Int) : Int := if (b0 ns - 1) * p0 ns < 3 then 2 else p0 ns
def most (ns : List Int) : Int := (blocks ns - 1) * pages ns
def step (ns : List Int) : Int := 1 + 2 * (drawnF ns 3 % 32)
def unl (ns : List Int) : Int := 1 + drawnF ns 4 % (most ns - 2)
def names (ns : List Int) : List Int := (List.range (unl ns).toNat).map fun (k : Nat) => (drawnF ns 2 + step ns * (k : Int)) % 64
def many (ns : List Int) : Int := if drawnF ns 5 % 3 = 0 then drawnF ns 5 / 3 % (most ns + 7) else most ns + 1 + drawnF ns 5 / 3 % 6
def row (ns : List Int) : List Int := (List.range (many ns).toNat).map fun k => (names ns).getD (drawnF ns (6 + k) % unl ns).toNat 0
def picks (ns : List Int) (t : Nat) : List Int := (List.range 6).map fun k => drawnF ns (22 + 6 * t + k)
theorem dims (ns : List Int) : (2 ≤ blocks ns ∧ blocks ns ≤ 4) ∧ (1 ≤ pages ns ∧ pages ns ≤ 3) ∧ 3 ≤ most ns ∧ most ns ≤ 9 := by
  have h0 : 0 ≤ drawnF ns 0 % 3 ∧ drawnF ns 0 % 3 < 3 := ⟨Int.emod_nonneg _ (by decide), Int.emod_lt_of_pos _ (by decide)⟩
  have h1 : 0 ≤ drawnF ns 1 % 3 ∧ drawnF ns 1 % 3 < 3 := ⟨Int.emod_nonneg _ (by decide), Int.emod_lt_of_pos _ (by decide)⟩
  unfold most blocks pages
  by_cases h : (b0 ns - 1) * p0 ns < 3
  · rw [if_pos h, if_pos h]; omega
  · rw [if_neg h, if_neg h]
    unfold b0 p0 at *
    generalize drawnF ns 0 % 3 = x at *
    generalize drawnF ns 1 % 3 = y at *
    have hx : x = 0 ∨ x = 1 ∨ x = 2 := by omega
    have hy : y = 0 ∨ y = 1 ∨ y = 2 := by omega
    rcases hx with rfl | rfl | rfl <;> rcases hy with rfl | rfl | rfl <;> simp at h ⊢
theorem unl_at (ns : List Int) : 1 ≤ unl ns ∧ unl ns ≤ most ns - 2 := by
  obtain ⟨_, _, h, _⟩ := dims ns
  have h1 := Int.emod_nonneg (drawnF ns 4) (show most ns - 2 ≠ 0 by omega)
  have h2 := Int.emod_lt_of_pos (drawnF ns 4) (show 0 < most ns - 2 by omega)
  unfold unl; omega
theorem many_at (ns : List Int) : 0 ≤ many ns ∧ many ns ≤ most ns + 6 := by
  obtain ⟨_, _, h, _⟩ := dims ns
  have h1 := Int.emod_nonneg (drawnF ns 5 / 3) (show most ns + 7 ≠ 0 by omega)
  have h2 := Int.emod_lt_of_pos (drawnF ns 5 / 3) (show 0 < most ns + 7 by omega)
  have h3 := Int.emod_nonneg (drawnF ns 5 / 3) (show (6 : Int) ≠ 0 by omega)
  have h4 := Int.emod_lt_of_pos (drawnF ns 5 / 3) (show (0 : Int) < 6 by omega)
  unfold many
  split <;> omega
theorem names_len (ns : List Int) : (names ns).length = (unl ns).toNat := by unfold names; simp
theorem names_at (ns : List Int) : ∀ s ∈ names ns, 0 ≤ s ∧ s ≤ 63 := by
  intro s hs
  unfold names at hs
  obtain ⟨k, _, rfl⟩ := List.mem_map.mp hs
  have h1 := Int.emod_nonneg (drawnF ns 2 + step ns * k) (show (64 : Int) ≠ 0 by omega)
  have h2 := Int.emod_lt_of_pos (drawnF ns 2 + step ns * k) (show (0 : Int) < 64 by omega)
  omega
theorem row_len (ns : List Int) : (row ns).length = (many ns).toNat := by unfold row; simp
theorem row_mem (ns : List Int) : ∀ s ∈ row ns, s ∈ names ns := by
  intro s hs
  unfold row at hs
  obtain ⟨k, _, rfl⟩ := List.mem_map.mp hs
  obtain ⟨u1, u2⟩ := unl_at ns
  have h1 := Int.emod_nonneg (drawnF ns (6 + k)) (show unl ns ≠ 0 by omega)
  have h2 := Int.emod_lt_of_pos (drawnF ns (6 + k)) (show 0 < unl ns by omega)
  have hl := names_len ns
  have : (drawnF ns (6 + k) % unl ns).toNat < (names ns).length := by omega
  rw [List.getD_eq_getElem?_getD, List.getElem?_eq_getElem this]
  exact List.getElem_mem this
end Race
def sp__law_drawn (K : PySem.W.Frag) : Sp := SpS fun vs pre k => ∃ (p : Addr) (ns : List Int) (j : Nat), vs = [.ref p, .int j] ∧ pre = [(p, seqO K (ns.map V.int))] ∧ ns.length ≤ 1000 ∧ j ≤ 1000 ∧ k (.int (drawnF ns j)) [(p, seqO K (ns.map V.int))]
def sp__law_race (K : PySem.W.Frag) : Sp := SpS fun vs pre k => ∃ (p : Addr) (ns : List Int), vs = [.ref p] ∧ pre = [(p, seqO K (ns.map V.int))] ∧ ns.length ≤ 1000 ∧ ∀ q r, k (.ref q) [(q, raw (.lst [.int (Race.blocks ns), .int (Race.pages ns), .ref r])), (r, raw (.lst ((Race.row ns).map V.int))), (p, seqO K (ns.map V.int))]
def sp_least_moves (K : PySem.W.Frag) (N : Nat) : Sp := SpS fun vs pre k => ∃ (r : Addr) (n : Nat) (pages : Int) (row : List Int) (m : Int) (cs : List Int), vs = [.int n, .int pages, .ref r] ∧ pre = [(r, seqO K (row.map V.int))] ∧ row.length ≤ 1000 ∧ RaceOk n pages row 0 ∧ BenchM.least N (.new n pages) row = some (m, cs) ∧
  ∀ t l, k (.ref t) [(t, tupO [.int m, .ref l]), (l, raw (.lst (cs.map V.int))), (r, seqO K (row.map V.int))]
def sp_law (K : PySem.W.Frag) : Sp := SpS fun vs pre k => ∃ (p : Addr) (ns : List Int), vs = [.ref p] ∧ pre = [(p, seqO K (ns.map V.int))] ∧ ns.length ≤ 1000 ∧ k (.bl true) [(p, seqO K (ns.map V.int))]
/-- _law_drawn: _law_script 0, _law_k 1, _law_number 2 -/
def t__law_drawn (K : PySem.W.Frag) : TS := tSeq (tIfS (tTest (tOp rLtI (tVar 1) (tCB (rLenV K) (tCons (tVar 0) (tNil))))) (tRet (tOp (rIxL K) (tVar 0) (tVar 1))) (tNext)) (tSeq (tAsg (tOp rAddI (tOp rMulI (tC (.int (30269))) (tVar 1)) (tC (.int (17)))) (gName 2)) (tSeq (tIfS (tTest (tOp rGtI (tCB (rLenV K) (tCons (tVar 0) (tNil))) (tC (.int (0))))) (tAsg (tOp rModI (tOp rAddI (tOp rMulI (tOp (rIxL K) (tVar 0) (tOp rModI (tOp rMulI (tVar 1) (tC (.int (3)))) (tCB (rLenV K) (tCons (tVar 0) (tNil))))) (tC (.int (69621)))) (tVar 2)) (tC (.int (2147483629)))) (gName 2)) (tNext)) (tRet (tOp rModI (tOp rMulI (tVar 2) (tVar 2)) (tC (.int (2147483579)))))))
/-- _law_race: _law_script 0, _law_blocks 1, _law_pages 2, _law_most 3, _law_step 4, _law_unlike 5, _law_names 6, _law_many 7, _law_k 8 -/
def t__law_race (K : PySem.W.Frag) : TS := tSeq (tAsg (tOp rAddI (tC (.int (2))) (tOp rModI (tCall (sp__law_drawn K) [] E0 (tCons (tVar 0) (tCons (tC (.int (0))) (tNil)))) (tC (.int (3))))) (gName 1)) (tSeq (tAsg (tOp rAddI (tC (.int (1))) (tOp rModI (tCall (sp__law_drawn K) [] E0 (tCons (tVar 0) (tCons (tC (.int (1))) (tNil)))) (tC (.int (3))))) (gName 2)) (tSeq (tIfS (tTest (tOp rLtI (tOp rMulI (tOp rSubI (tVar 1) (tC (.int (1)))) (tVar 2)) (tC (.int (3))))) (tSeq (tAsg (tC (.int (3))) (gName 1)) (tAsg (tC (.int (2))) (gName 2))) (tNext)) (tSeq (tAsg (tOp rMulI (tOp rSubI (tVar 1) (tC (.int (1)))) (tVar 2)) (gName 3)) (tSeq (tAsg (tOp rAddI (tC (.int (1))) (tOp rMulI (tC (.int (2))) (tOp rModI (tCall (sp__law_drawn K) [] E0 (tCons (tVar 0) (tCons (tC (.int (3))) (tNil)))) (tC (.int (32)))))) (gName 4)) (tSeq (tAsg (tOp rAddI (tC (.int (1))) (tOp rModI (tCall (sp__law_drawn K) [] E0 (tCons (tVar 0) (tCons (tC (.int (4))) (tNil)))) (tOp rSubI (tVar 3) (tC (.int (2)))))) (gName 5)) (tSeq (tAsg (tLc (iRng1 (tCons (tVar 5) (tNil))) (gName 8) (tYes) (tOp rModI (tOp rAddI (tCall (sp__law_drawn K) [] E0 (tCons (tVar 0) (tCons (tC (.int (2))) (tNil)))) (tOp rMulI (tVar 4) (tVar 8))) (tC (.int (64)))) [8]) (gName 6)) (tSeq (tAsg (tOp rAddI (tOp rAddI (tVar 3) (tC (.int (1)))) (tOp rModI (tOp rDivI (tCall (sp__law_drawn K) [] E0 (tCons (tVar 0) (tCons (tC (.int (5))) (tNil)))) (tC (.int (3)))) (tC (.int (6))))) (gName 7)) (tSeq (tIfS (tTest (tOp rEq (tOp rModI (tCall (sp__law_drawn K) [] E0 (tCons (tVar 0) (tCons (tC (.int (5))) (tNil)))) (tC (.int (3)))) (tC (.int (0))))) (tAsg (tOp rModI (tOp rDivI (tCall (sp__law_drawn K) [] E0 (tCons (tVar 0) (tCons (tC (.int (5))) (tNil)))) (tC (.int (3)))) (tOp rAddI (tVar 3) (tC (.int (7))))) (gName 7)) (tNext)) (tRet (tLst (tCons (tVar 1) (tCons (tVar 2) (tCons (tLc (iRng1 (tCons (tVar 7) (tNil))) (gName 8) (tYes) (tOp (rIxL K) (tVar 6) (tOp rModI (tCall (sp__law_drawn K) [] E0 (tCons (tVar 0) (tCons (tOp rAddI (tC (.int (6))) (tVar 8)) (tNil)))) (tVar 5))) [8]) (tNil))))))))))))))
/-- least_moves: blocks 0, pages 1, row 2 -/
def t_least_moves (K : PySem.W.Frag) (N : Nat) : TS := tSeq (tDrop (tCall (sp_need_race K) [] E0 (tCons (tVar 0) (tCons (tVar 1) (tCons (tVar 2) (tCons (tC (.int (0))) (tNil))))))) (tRet (tCall (sp_least_from K N) [] E0 (tCons (tMake (He.ga K "Bench") (sp_Bench___init__ K) [] E0 (tCons (tVar 0) (tCons (tVar 1) (tNil)))) (tCons (tVar 2) (tNil)))))
/-- law: _law_script 0, _law_blocks 1, _law_pages 2, _law_row 3, _law_found 4, _law_turn 5, _law_picks 6, _law_k 7 -/
def t_law (K : PySem.W.Frag) (N : Nat) : TS := tSeq (tAsg (tCall (sp__law_race K) [] E0 (tCons (tVar 0) (tNil))) (gUnl K 3 (gCons (gName 1) (gCons (gName 2) (gCons (gName 3) (gNil)))))) (tSeq (tAsg (tCall (sp_least_moves K N) [] E0 (tCons (tVar 1) (tCons (tVar 2) (tCons (tCB (rListOf K) (tCons (tVar 3) (tNil))) (tNil))))) (gName 4)) (tSeq (tFor (iRng1 (tCons (tC (.int (3))) (tNil))) (gName 5) (tSeq (tAsg (tLc (iRng1 (tCons (tC (.int (6))) (tNil))) (gName 7) (tYes) (tCall (sp__law_drawn K) [] E0 (tCons (tVar 0) (tCons (tOp rAddI (tOp rAddI (tC (.int (22))) (tOp rMulI (tC (.int (6))) (tVar 5))) (tVar 7)) (tNil)))) [7]) (gName 6)) (tIfS (tTest (tOp (rLtD K) (tCall (sp__law_way K) [] E0 (tCons (tVar 1) (tCons (tVar 2) (tCons (tVar 3) (tCons (tVar 6) (tNil)))))) (tVar 4))) (tRet (tC (.bl false))) (tNext)))) (tRet (tC (.bl true)))))
section
variable {K : PySem.W.Frag} {vs : List V} {H : Hp} {Q : VK} {E : XK} {L L' : List Cell} {a : Addr}
theorem pure__law_drawn (h : sp__law_drawn K vs H Q E) : t__law_drawn K (endsOf Q) (start ["_law_script", "_law_k", "_law_number"] vs) H := by
  obtain ⟨pre, F, R, p, ns, j, rfl, rfl, hn, hj, k⟩ := h.use
  have R : Rel H ((p, seqO K (ns.map V.int)) :: F) := R
  unfold drawnF at k
  unfold t__law_drawn
  walk_at "g"
  rw [List.length_map]
  refine ite_d (fun h1 => ?_) fun h1 => ?_
  · rw [if_pos (by omega)] at k
    walk_at "g"
    refine ixL_at R (.seq .here) (v := .int (ns.getD j 0)) (atI_of (by omega) (by rw [List.getElem?_map]; simp [show j < ns.length by omega])) ?_
    exact k _ R
  · rw [if_neg (by omega)] at k
    walk_at "g"
    refine go_I (.inl (by omega)) ?_
    walk_at "g"
    rw [List.length_map]
    refine ite_d (fun h2 => ?_) fun h2 => ?_
    · rw [if_pos (by omega)] at k
      walk_at "g"
      refine go_I (.inl (by omega)) ?_
      walk_at "g"
      refine go_I (by rw [List.length_map]; omega) ?_
      have e : (j : Int) * 3 % ((ns.map V.int).length : Nat) = ((j * 3 % ns.length : Nat) : Int) := by rw [List.length_map]; simp
      rw [e]
      have hlt : j * 3 % ns.length < ns.length := Nat.mod_lt _ (by omega)
      refine ixL_at R (.seq .here) (v := .int (ns.getD (j * 3 % ns.length) 0)) (atI_of (by omega) (by rw [List.getElem?_map, Int.toNat_natCast]; simp [hlt])) ?_
      walk_at "g"
      refine go_I (.inr (by omega)) ?_
      walk_at "g"
      refine go_I (by omega) ?_
      walk_at "g"
      have hm := Int.emod_nonneg (ns.getD (j * 3 % ns.length) 0 * 69621 + (30269 * ↑j + 17)) (show (2147483629 : Int) ≠ 0 by omega)
      have hm2 := Int.emod_lt_of_pos (ns.getD (j * 3 % ns.length) 0 * 69621 + (30269 * ↑j + 17)) (show (0 : Int) < 2147483629 by omega)
      refine go_I (.inl ⟨by omega, by omega⟩) ?_
      walk_at "g"
      refine go_I (by omega) ?_
      exact k _ R
    · rw [if_neg (by omega)] at k
      walk_at "g"
      refine go_I (.inl ⟨by omega, by omega⟩) ?_
      walk_at "g"
      refine go_I (by omega) ?_
      exact k _ R
theorem pure__law_race (h : sp__law_race K vs H Q E) : t__law_race K (endsOf Q) (start ["_law_script", "_law_blocks", "_law_pages", "_law_most", "_law_step", "_law_unlike", "_law_names", "_law_many", "_law_k"] vs) H := by
  obtain ⟨pre, F, R, p, ns, rfl, rfl, hn, k⟩ := h.use
  have R : Rel H ((p, seqO K (ns.map V.int)) :: F) := R
  obtain ⟨⟨d1, d2⟩, ⟨d3, d4⟩, d5, d6⟩ := Race.dims ns
  obtain ⟨u1, u2⟩ := Race.unl_at ns
  obtain ⟨m1, m2⟩ := Race.many_at ns
  have hp0 : 1 ≤ Race.p0 ns ∧ Race.p0 ns ≤ 3 := by
    have h1 := Int.emod_nonneg (drawnF ns 1) (show (3 : Int) ≠ 0 by omega)
    have h2 := Int.emod_lt_of_pos (drawnF ns 1) (show (0 : Int) < 3 by omega)
    unfold Race.p0; omega
  -- what follows once the blocks and pages are known
  have aft : ∀ (H2 : Hp), Rel H2 ((p, seqO K (ns.map V.int)) :: F) → tSeq (tAsg (tOp rMulI (tOp rSubI (tVar 1) (tC (.int (1)))) (tVar 2)) (gName 3)) (tSeq (tAsg (tOp rAddI (tC (.int (1))) (tOp rMulI (tC (.int (2))) (tOp rModI (tCall (sp__law_drawn K) [] E0 (tCons (tVar 0) (tCons (tC (.int (3))) (tNil)))) (tC (.int (32)))))) (gName 4)) (tSeq (tAsg (tOp rAddI (tC (.int (1))) (tOp rModI (tCall (sp__law_drawn K) [] E0 (tCons (tVar 0) (tCons (tC (.int (4))) (tNil)))) (tOp rSubI (tVar 3) (tC (.int (2)))))) (gName 5)) (tSeq (tAsg (tLc (iRng1 (tCons (tVar 5) (tNil))) (gName 8) (tYes) (tOp rModI (tOp rAddI (tCall (sp__law_drawn K) [] E0 (tCons (tVar 0) (tCons (tC (.int (2))) (tNil)))) (tOp rMulI (tVar 4) (tVar 8))) (tC (.int (64)))) [8]) (gName 6)) (tSeq (tAsg (tOp rAddI (tOp rAddI (tVar 3) (tC (.int (1)))) (tOp rModI (tOp rDivI (tCall (sp__law_drawn K) [] E0 (tCons (tVar 0) (tCons (tC (.int (5))) (tNil)))) (tC (.int (3)))) (tC (.int (6))))) (gName 7)) (tSeq (tIfS (tTest (tOp rEq (tOp rModI (tCall (sp__law_drawn K) [] E0 (tCons (tVar 0) (tCons (tC (.int (5))) (tNil)))) (tC (.int (3)))) (tC (.int (0))))) (tAsg (tOp rModI (tOp rDivI (tCall (sp__law_drawn K) [] E0 (tCons (tVar 0) (tCons (tC (.int (5))) (tNil)))) (tC (.int (3)))) (tOp rAddI (tVar 3) (tC (.int (7))))) (gName 7)) (tNext)) (tRet (tLst (tCons (tVar 1) (tCons (tVar 2) (tCons (tLc (iRng1 (tCons (tVar 7) (tNil))) (gName 8) (tYes) (tOp (rIxL K) (tVar 6) (tOp rModI (tCall (sp__law_drawn K) [] E0 (tCons (tVar 0) (tCons (tOp rAddI (tC (.int (6))) (tVar 8)) (tNil)))) (tVar 5))) [8]) (tNil))))))))))) (endsOf Q)
      [some (.ref p), some (.int (Race.blocks ns)), some (.int (Race.pages ns)), none, none, none, none, none, none] H2 := by
    intro H2 R2
    walk_at "g"
    refine go_I (.inl ⟨by omega, by omega⟩) ?_
    walk_at "g"
    refine SpS.call R2 (by walk_at "sels") ⟨p, ns, 3, rfl, rfl, hn, by omega, fun H3 R3 => ?_⟩
    walk_at "g"
    refine go_I (by omega) ?_
    have h32 := Int.emod_nonneg (drawnF ns 3) (show (32 : Int) ≠ 0 by omega)
    have h32b := Int.emod_lt_of_pos (drawnF ns 3) (show (0 : Int) < 32 by omega)
    walk_at "g"
    refine go_I (.inl ⟨by omega, by omega⟩) ?_
    walk_at "g"
    refine SpS.call R3 (by walk_at "sels") ⟨p, ns, 4, rfl, rfl, hn, by omega, fun H4 R4 => ?_⟩
    walk_at "g"
    refine go_I (show 0 < Race.most ns - 2 by omega) ?_
    walk_at "g"
    refine rng1_at (show 0 ≤ Race.unl ns by omega) (show Race.unl ns ≤ 1000000 by omega) ?_
    refine lcF (wk_range (n := (Race.unl ns).toNat)) (fun i => some (.int ((drawnF ns 2 + Race.step ns * (i : Nat)) % 64))) R4 (fun _ _ => trivial) ?_ ?_
    · rintro i x cs acc D H5 hi ha ⟨rfl, rfl⟩ R5
      rw [show (0 : Int) + i = (i : Int) from Int.zero_add _]
      walk_at "g"
      refine ⟨rfl, ?_⟩
      walk_at "g"
      refine SpS.call R5 (by walk_at "sels") ⟨p, ns, 2, rfl, rfl, hn, by omega, fun H6 R6 => ?_⟩
      walk_at "g"
      refine go_I (.inl (show -(2 ^ 64) < Race.step ns ∧ Race.step ns < 2 ^ 64 by unfold Race.step; omega)) ?_
      walk_at "g"
      refine go_I (by omega) ?_
      exact flt_put rfl (by omega) ha R6 (by walk_at "sel") (by walk_at "drops")
    · intro D H5 R5
      walk_at "g"
      have e6 : (List.range (Race.unl ns).toNat).filterMap (fun i => some (V.int ((drawnF ns 2 + Race.step ns * (i : Nat)) % 64))) = (Race.names ns).map V.int := by
        unfold Race.names
        rw [List.map_map, ← List.filterMap_eq_map]; rfl
      rw [e6] at R5
      have R5 : Rel H5 ((D, raw (.lst ((Race.names ns).map V.int))) :: (p, seqO K (ns.map V.int)) :: F) := R5
      -- the last line
      have last : ∀ (H8 : Hp), Rel H8 ((D, raw (.lst ((Race.names ns).map V.int))) :: (p, seqO K (ns.map V.int)) :: F) → tRet (tLst (tCons (tVar 1) (tCons (tVar 2) (tCons (tLc (iRng1 (tCons (tVar 7) (tNil))) (gName 8) (tYes) (tOp (rIxL K) (tVar 6) (tOp rModI (tCall (sp__law_drawn K) [] E0 (tCons (tVar 0) (tCons (tOp rAddI (tC (.int (6))) (tVar 8)) (tNil)))) (tVar 5))) [8]) (tNil))))) (endsOf Q)
          [some (.ref p), some (.int (Race.blocks ns)), some (.int (Race.pages ns)), some (.int (Race.most ns)), some (.int (Race.step ns)), some (.int (Race.unl ns)), some (.ref D), some (.int (Race.many ns)), none] H8 := by
        intro H8 R8
        walk_at "g"
        refine rng1_at m1 (by omega) ?_
        refine lcF (wk_range (n := (Race.many ns).toNat)) (fun i => some (.int ((Race.names ns).getD (drawnF ns (6 + i) % Race.unl ns).toNat 0))) R8 (fun _ _ => trivial) ?_ ?_
        · rintro i x cs acc D2 H9 hi ha ⟨rfl, rfl⟩ R9
          rw [show (0 : Int) + i = (i : Int) from Int.zero_add _]
          walk_at "g"
          refine ⟨rfl, ?_⟩
          walk_at "g"
          refine SpS.call R9 (by walk_at "sels") ⟨p, ns, 6 + i, by rw [show ((6 : Int) + i) = ((6 + i : Nat) : Int) by omega]; rfl, rfl, hn, by omega, fun HA RA => ?_⟩
          walk_at "g"
          refine go_I (by omega) ?_
          have q1 := Int.emod_nonneg (drawnF ns (6 + i)) (show Race.unl ns ≠ 0 by omega)
          have q2 := Int.emod_lt_of_pos (drawnF ns (6 + i)) (show 0 < Race.unl ns by omega)
          have hnl := Race.names_len ns
          refine ixL_at RA (by walk_at "lst") (v := .int ((Race.names ns).getD (drawnF ns (6 + i) % Race.unl ns).toNat 0)) (atI_of q1 (by rw [List.getElem?_map]; simp [show (drawnF ns (6 + i) % Race.unl ns).toNat < (Race.names ns).length by omega])) ?_
          have RA2 : Rel HA ((D2, raw (.lst acc)) :: (D, raw (.lst ((Race.names ns).map V.int))) :: (p, seqO K (ns.map V.int)) :: F) := RA.fin (cs := [_, _, _]) (by walk_at "sels") (by walk_at "drops")
          exact flt_put rfl (by omega) ha RA2 (by walk_at "sel") (by walk_at "drops")
        · intro D2 H9 R9
          have e7 : (List.range (Race.many ns).toNat).filterMap (fun i => some (V.int ((Race.names ns).getD (drawnF ns (6 + i) % Race.unl ns).toNat 0))) = (Race.row ns).map V.int := by
            unfold Race.row
            rw [List.map_map, ← List.filterMap_eq_map]; rfl
          rw [e7] at R9
          walk_at "g"
          refine lst_new R9 (by simp) fun q HB RB => ?_
          walk_at "g"
          exact k q D2 _ (RB.fin (by walk_at "sels") (by walk_at "drops"))
      refine SpS.call R5 (by walk_at "sels") ⟨p, ns, 5, rfl, rfl, hn, by omega, fun H6 R6 => ?_⟩
      walk_at "g"
      refine go_I ⟨by omega, by omega⟩ ?_
      walk_at "g"
      refine go_I (by omega) ?_
      walk_at "g"
      refine SpS.call R6 (by walk_at "sels") ⟨p, ns, 5, rfl, rfl, hn, by omega, fun H7 R7 => ?_⟩
      walk_at "g"
      refine go_I (by omega) ?_
      walk_at "g"
      refine go_eq rfl ?_
      walk_at "g"
      refine ite_d (fun h1 => ?_) fun h1 => ?_
      · have h1' := V.int.inj h1
        walk_at "g"
        refine SpS.call R7 (by walk_at "sels") ⟨p, ns, 5, rfl, rfl, hn, by omega, fun H8 R8 => ?_⟩
        walk_at "g"
        refine go_I ⟨by omega, by omega⟩ ?_
        walk_at "g"
        refine go_I (show 0 < Race.most ns + 7 by omega) ?_
        have em : drawnF ns 5 / 3 % (Race.most ns + 7) = Race.many ns := by unfold Race.many; rw [if_pos h1']
        have l := last H8 (R8.fin (cs := [_, _]) (by walk_at "sels") (by walk_at "drops"))
        rw [← em] at l
        exact l
      · have h1' : ¬ drawnF ns 5 % 3 = 0 := fun z => h1 (congrArg V.int z)
        have em : Race.most ns + 1 + drawnF ns 5 / 3 % 6 = Race.many ns := by unfold Race.many; rw [if_neg h1']
        have l := last H7 (R7.fin (cs := [_, _]) (by walk_at "sels") (by walk_at "drops"))
        rw [← em] at l
        exact l
  unfold t__law_race
  walk_at "g"
  refine SpS.call R (by walk_at "sels") ⟨p, ns, 0, rfl, rfl, hn, by omega, fun H2 R2 => ?_⟩
  walk_at "g"
  refine go_I (by omega) ?_
  walk_at "g"
  refine SpS.call R2 (by walk_at "sels") ⟨p, ns, 1, rfl, rfl, hn, by omega, fun H3 R3 => ?_⟩
  walk_at "g"
  refine go_I (by omega) ?_
  walk_at "g"
  refine go_I (.inr (show -(2 ^ 64) < Race.p0 ns ∧ Race.p0 ns < 2 ^ 64 by omega)) ?_
  walk_at "g"
  refine ite_d (fun h1 => ?_) fun h1 => ?_
  · have h1 : (Race.b0 ns - 1) * Race.p0 ns < 3 := h1
    have eb : Race.blocks ns = 3 := by unfold Race.blocks; rw [if_pos h1]
    have ep : Race.pages ns = 2 := by unfold Race.pages; rw [if_pos h1]
    have l := aft H3 R3
    rw [eb, ep] at l
    exact l
  · have h1 : ¬ (Race.b0 ns - 1) * Race.p0 ns < 3 := h1
    have eb : Race.blocks ns = Race.b0 ns := by unfold Race.blocks; rw [if_neg h1]
    have ep : Race.pages ns = Race.p0 ns := by unfold Race.pages; rw [if_neg h1]
    have l := aft H3 R3
    rw [eb, ep] at l
    exact l
theorem pure_least_moves {N : Nat} (T : TBench K) (h : sp_least_moves K N vs H Q E) : t_least_moves K N (endsOf Q) (start ["blocks", "pages", "row"] vs) H := by
  obtain ⟨pre, F, R, r, n, pages, row, m, cs, rfl, rfl, hl, rc, hle, k⟩ := h.use
  have R : Rel H ((r, seqO K (row.map V.int)) :: F) := R
  obtain ⟨⟨b1, b2⟩, ⟨p1, p2⟩, rm, rl, rs, ru⟩ := id rc
  unfold t_least_moves
  walk_at "g"
  refine SpS.call R (by walk_at "sels") ⟨r, row, _, _, _, rfl, rfl, by omega, rc, fun H2 R2 => ?_⟩
  have R2 : Rel H2 ((r, seqO K (row.map V.int)) :: F) := R2
  walk_at "g"
  refine make_at R2 fun x dx H3 R3 => ?_
  refine SpS.call R3 (by walk_at "sels") ⟨x, dx, n, pages, rfl, rfl, by omega, fun H4 R4 => ⟨rfl, ?_⟩⟩
  walk_at "g"
  refine SpS.call R4 (by walk_at "sels") ⟨x, r, .new n pages, row, m, cs, rfl, rfl, ?_, hl, hle, fun t l H5 R5 => ?_⟩
  · refine ⟨p1, by show pages ≤ 100; omega, by simp [BenchM.new], by simp [BenchM.new]; omega, fun st hst => ?_⟩
    rw [List.eq_of_mem_replicate hst]
    show ((0 : Nat) : Int) ≤ pages
    omega
  · exact k t l _ (R5.fin (by walk_at "sels") (by walk_at "drops"))
end
section
variable {K : PySem.W.Frag} {vs : List V} {H : Hp} {Q : VK} {E : XK} {L L' : List Cell} {a : Addr}
/-- what the plain law has to give -/
def RaceLaw (N : Nat) : Prop := ∀ ns : List Int, RaceOk (Race.blocks ns) (Race.pages ns) (Race.row ns) 0 ∧ ∃ m cs, BenchM.least N (.new (Race.blocks ns).toNat (Race.pages ns)) (Race.row ns) = some (m, cs) ∧
  ∀ t, ∃ m2 cs2, LSt.run (Race.picks ns t) (Race.row ns) (.new (Race.blocks ns).toNat (Race.pages ns)) 0 [] = some (m2, cs2) ∧ ltP (m2, cs2) (m, cs) = false
theorem pure_law {N : Nat} (M : RaceLaw N) (h : sp_law K vs H Q E) : t_law K N (endsOf Q) (start ["_law_script", "_law_blocks", "_law_pages", "_law_row", "_law_found", "_law_turn", "_law_picks", "_law_k"] vs) H := by
  obtain ⟨pre, F, R, p, ns, rfl, rfl, hn, k⟩ := h.use
  have R : Rel H ((p, seqO K (ns.map V.int)) :: F) := R
  obtain ⟨⟨d1, d2⟩, ⟨d3, d4⟩, d5, d6⟩ := Race.dims ns
  obtain ⟨m1, m2⟩ := Race.many_at ns
  have hrl := Race.row_len ns
  obtain ⟨rok, m, cs, hle, hw⟩ := M ns
  have hb : (((Race.blocks ns).toNat : Nat) : Int) = Race.blocks ns := Int.toNat_of_nonneg (by omega)
  unfold t_law
  walk_at "g"
  refine SpS.call R (by walk_at "sels") ⟨p, ns, rfl, rfl, hn, fun q r H2 R2 => ?_⟩
  have R2 : Rel H2 ((r, raw (.lst ((Race.row ns).map V.int))) :: (q, raw (.lst [.int (Race.blocks ns), .int (Race.pages ns), .ref r])) :: (p, seqO K (ns.map V.int)) :: F) := R2.fin (cs := [_, _, _]) (by walk_at "sels") (by walk_at "drops")
  refine gunl_at R2 (by walk_at "lst") rfl ?_
  walk_at "g"
  refine go_listOf R2 (.raw .here) fun r2 H3 R3 => ?_
  have R3 := Rel.asSeq (K := K) R3
  walk_at "g"
  refine SpS.call R3 (by walk_at "sels") ⟨r2, (Race.blocks ns).toNat, Race.pages ns, Race.row ns, m, cs, by rw [hb]; rfl, rfl, by omega, by rw [hb]; exact rok, hle, fun t l H4 R4 => ?_⟩
  have R4 : Rel H4 ((r, raw (.lst ((Race.row ns).map V.int))) :: (t, tupO [.int m, .ref l]) :: (l, raw (.lst (cs.map V.int))) :: (p, seqO K (ns.map V.int)) :: F) := R4.fin (cs := [_, _, _, _]) (by walk_at "sels") (by walk_at "drops")
  have R4 := Rel.asSeq (K := K) R4
  walk_at "g"
  refine rng1_at (by omega) (by omega) ?_
  refine forJ (wk_range (n := 3)) (fun i σ L => (∃ u v w, σ = [some (.ref p), some (.int (Race.blocks ns)), some (.int (Race.pages ns)), some (.ref r), some (.ref t), u, v, w]) ∧ L = (r, seqO K ((Race.row ns).map V.int)) :: (t, tupO [.int m, .ref l]) :: (l, raw (.lst (cs.map V.int))) :: (p, seqO K (ns.map V.int)) :: F) R4 ⟨⟨_, _, _, rfl⟩, rfl⟩ (fun i σ L _ ⟨_, e⟩ => trivial) ?_ ?_
  · rintro i x ds σ H5 L hi ⟨⟨u, v, w, rfl⟩, rfl⟩ ⟨rfl, rfl⟩ R5
    rw [show (0 : Int) + i = (i : Int) from Int.zero_add _]
    obtain ⟨m2, cs2, hrun, hlt⟩ := hw i
    walk_at "g"
    refine rng1_at (by omega) (by omega) ?_
    refine lcF (wk_range (n := 6)) (fun j => some (.int (drawnF ns (22 + 6 * i + j)))) R5 (fun _ _ => trivial) ?_ ?_
    · rintro j x cs3 acc D2 H9 hj ha ⟨rfl, rfl⟩ R9
      rw [show (0 : Int) + j = (j : Int) from Int.zero_add _]
      walk_at "g"
      refine ⟨rfl, ?_⟩
      walk_at "g"
      refine go_I (.inl (by omega)) ?_
      walk_at "g"
      refine SpS.call R9 (by walk_at "sels") ⟨p, ns, 22 + 6 * i + j, by rw [show ((22 : Int) + 6 * i + j) = ((22 + 6 * i + j : Nat) : Int) by omega]; rfl, rfl, hn, by omega, fun HA RA => ?_⟩
      have RA2 : Rel HA ((D2, raw (.lst acc)) :: (r, seqO K ((Race.row ns).map V.int)) :: (t, tupO [.int m, .ref l]) :: (l, raw (.lst (cs.map V.int))) :: (p, seqO K (ns.map V.int)) :: F) := RA.fin (cs := [_, _, _, _, _]) (by walk_at "sels") (by walk_at "drops")
      exact flt_put rfl (by omega) ha RA2 (by walk_at "sel") (by walk_at "drops")
    · intro D2 H6 R6
      have e6 : (List.range 6).filterMap (fun j => some (V.int (drawnF ns (22 + 6 * i + j)))) = (Race.picks ns i).map V.int := by
        unfold Race.picks
        rw [List.map_map, ← List.filterMap_eq_map]; rfl
      rw [e6] at R6
      have R6 := Rel.asSeq (K := K) R6
      walk_at "g"
      refine SpS.call R6 (by walk_at "sels") ⟨r, D2, (Race.blocks ns).toNat, Race.pages ns, Race.row ns, Race.picks ns i, m2, cs2, by rw [hb]; rfl, rfl, by omega, d3, d4, by omega, hrun, fun t2 l2 H7 R7 => ?_⟩
      walk_at "g"
      refine ltD_at (dp_way (m := m2) (cs := cs2) R7 (by walk_at "sel") (by walk_at "sel")) (dp_way (m := m) (cs := cs) R7 (by walk_at "sel") (by walk_at "sel")) (alike_way _ _) (by unfold wayD; exact PyData.noConfusion) (depth_way _) ?_
      rw [dataLt_way, hlt]
      walk_at "g"
      refine ite_f rfl ?_
      walk_at "g"
      walk_at "inv"
      exact inv_s (cs := [_, _, _, _]) ⟨⟨_, _, _, rfl⟩, rfl⟩ R7 (by walk_at "sels") (by walk_at "drops")
  · rintro σ H5 L R5 ⟨⟨u, v, w, rfl⟩, rfl⟩
    walk_at "g"
    exact k _ (R5.fin (by walk_at "sels") (by walk_at "drops"))
end
theorem ltL_nt : ∀ {a b c : List Int}, ltL c b = false → ltL b a = false → ltL c a = false
  | [], _, [], _, _ => rfl
  | [], _, _ :: _, _, _ => rfl
  | _ :: _, [], _, _, h => by simp [ltL] at h
  | _ :: _, _ :: _, [], h, _ => by simp [ltL] at h
  | x :: xs, y :: ys, z :: zs, h1, h2 => by
    unfold ltL at *
    by_cases e1 : z = y
    · by_cases e2 : y = x
      · subst e1; subst e2
        rw [if_pos rfl] at *
        exact ltL_nt h1 h2
      · rw [if_neg e2] at h2
        have := of_decide_eq_false h2
        rw [if_neg (by omega)]
        exact decide_eq_false (by omega)
    · rw [if_neg e1] at h1
      have h3 := of_decide_eq_false h1
      by_cases e2 : y = x
      · rw [if_neg (by omega)]
        exact decide_eq_false (by omega)
      · rw [if_neg e2] at h2
        have := of_decide_eq_false h2
        rw [if_neg (by omega)]
        exact decide_eq_false (by omega)
theorem ltP_nt {a b c : Int × List Int} (h1 : ltP c b = false) (h2 : ltP b a = false) : ltP c a = false := by
  unfold ltP at *
  by_cases e1 : c.1 = b.1
  · by_cases e2 : b.1 = a.1
    · rw [if_pos e1] at h1
      rw [if_pos e2] at h2
      rw [if_pos (e1.trans e2)]
      exact ltL_nt h1 h2
    · rw [if_neg e2] at h2
      have := of_decide_eq_false h2
      rw [if_neg (by omega)]
      exact decide_eq_false (by omega)
  · rw [if_neg e1] at h1
    have h3 := of_decide_eq_false h1
    by_cases e2 : b.1 = a.1
    · rw [if_neg (by omega)]
      exact decide_eq_false (by omega)
    · rw [if_neg e2] at h2
      have := of_decide_eq_false h2
      rw [if_neg (by omega)]
      exact decide_eq_false (by omega)
theorem ltP_self (a : Int × List Int) : ltP a a = false := by unfold ltP; rw [if_pos rfl]; exact ltL_self _
theorem ltP_shift {m m2 : Int} {cs cs2 : List Int} (v k : Int) (h : ltP (m, cs) (m2, cs2) = false) : ltP (v + m, k :: cs) (v + m2, k :: cs2) = false := by
  unfold ltP at *
  simp only at *
  by_cases e : m = m2
  · rw [if_pos e] at h
    rw [if_pos (by omega)]
    unfold ltL
    rw [if_pos rfl]; exact h
  · rw [if_neg e] at h
    have := of_decide_eq_false h
    rw [if_neg (by omega)]
    exact decide_eq_false (by omega)
namespace BenchM
inductive Way : BenchM → List Int → Int → List Int → Prop
  | nil (b : BenchM) : Way b [] 0 []
  | put {b b' : BenchM} {z : Int} {r : List Int} {m : Int} {cs : List Int} : b.isReady = true → b.layDown z = some b' → Way b' r m cs → Way b (z :: r) m cs
  | make {b b1 : BenchM} {z : Int} {r : List Int} {m : Int} {cs : List Int} {k : Nat} : b.isReady = false → k ∈ b.choices → b.clearOut k = some b1 → Way b1 (z :: r) m cs → Way b (z :: r) ((b.moved k).length + m) ((k : Int) :: cs)
theorem run_strip : ∀ {row : List Int} {b be : BenchM} {rest : List Int} {m : Int} {cs : List Int}, run row b = some (rest, be) → Way b row m cs → Way be rest m cs ∧ (rest ≠ [] → be.isReady = false)
  | [], b, be, rest, m, cs, h, w => by
    cases Option.some.inj h
    exact ⟨w, fun z => absurd rfl z⟩
  | z :: r, b, be, rest, m, cs, h, w => by
    unfold run at h
    by_cases hr : b.isReady = true
    · rw [if_pos hr] at h
      obtain ⟨b', h1, h2⟩ := Option.bind_eq_some_iff.mp h
      cases w with
      | put _ h3 w' =>
        rw [h1] at h3
        cases Option.some.inj h3
        exact run_strip h2 w'
      | make h3 _ _ _ => rw [hr] at h3; cases h3
    · rw [if_neg hr] at h
      cases Option.some.inj h
      exact ⟨w, fun _ => Bool.eq_false_iff.mpr hr⟩
theorem bestOf_le {rec : BenchM → List Int → Option (Int × List Int)} {b : BenchM} {row : List Int} : ∀ {ks : List Nat} {best res : Option (Int × List Int)}, ks.Pairwise (· < ·) → (∀ m0 cs0, best = some (m0, cs0) → ∃ (k0 : Nat) (t0 : List Int), cs0 = (k0 : Int) :: t0 ∧ ∀ k ∈ ks, k0 < k) → bestOf rec b row ks best = some res →
    (∀ m0 cs0, best = some (m0, cs0) → ∃ m1 cs1, res = some (m1, cs1) ∧ ltP (m0, cs0) (m1, cs1) = false) ∧
    ∀ k ∈ ks, ∃ b1 r, b.clearOut k = some b1 ∧ rec b1 row = some r ∧ ∃ m1 cs1, res = some (m1, cs1) ∧ ltP ((b.moved k).length + r.1, (k : Int) :: r.2) (m1, cs1) = false
  | [], best, res, _, _, h => by
    cases Option.some.inj h
    exact ⟨fun m0 cs0 e => ⟨m0, cs0, e, ltP_self _⟩, fun k hk => by cases hk⟩
  | k :: ks, best, res, hs, hb, h => by
    obtain ⟨b1, h1, h⟩ := Option.bind_eq_some_iff.mp h
    obtain ⟨r, h2, h⟩ := Option.bind_eq_some_iff.mp h
    obtain ⟨hs1, hs2⟩ := List.pairwise_cons.mp hs
    have nb : ∀ m0 cs0, better best ((b.moved k).length + r.1) ((k : Int) :: r.2) = some (m0, cs0) → ∃ (k0 : Nat) (t0 : List Int), cs0 = (k0 : Int) :: t0 ∧ ∀ k' ∈ ks, k0 < k' := by
      intro m0 cs0 e
      unfold better at e
      split at e
      · cases Option.some.inj e; exact ⟨k, r.2, rfl, hs1⟩
      · rename_i m9 cs9
        split at e
        · cases Option.some.inj e; exact ⟨k, r.2, rfl, hs1⟩
        · cases Option.some.inj e
          obtain ⟨k0, t0, e0, h0⟩ := hb _ _ rfl
          exact ⟨k0, t0, e0, fun k' hk' => h0 k' (List.mem_cons_of_mem _ hk')⟩
    obtain ⟨i1, i2⟩ := bestOf_le hs2 nb h
    -- what the better of both is
    have hnew : ∃ m1 cs1, res = some (m1, cs1) ∧ ltP ((b.moved k).length + r.1, (k : Int) :: r.2) (m1, cs1) = false := by
      cases hbst : best with
      | none =>
        exact i1 _ _ (by rw [hbst]; rfl)
      | some p =>
        obtain ⟨m9, cs9⟩ := p
        by_cases hlt : (b.moved k).length + r.1 < m9
        · exact i1 _ _ (by rw [hbst]; unfold better; simp only; rw [if_pos hlt])
        · obtain ⟨m1, cs1, e1, l1⟩ := i1 m9 cs9 (by rw [hbst]; unfold better; simp only; rw [if_neg hlt])
          refine ⟨m1, cs1, e1, ltP_nt ?_ l1⟩
          obtain ⟨k0, t0, e0, h0⟩ := hb _ _ hbst
          have hk0 := h0 k List.mem_cons_self
          subst e0
          unfold ltP
          simp only
          by_cases e : (b.moved k).length + r.1 = m9
          · rw [if_pos e]
            unfold ltL
            rw [if_neg (by omega)]
            exact decide_eq_false (by omega)
          · rw [if_neg e]
            exact decide_eq_false hlt
    refine ⟨fun m0 cs0 e => ?_, fun k' hk' => ?_⟩
    · subst e
      by_cases hlt : (b.moved k).length + r.1 < m0
      · obtain ⟨m1, cs1, e1, l1⟩ := i1 _ _ (by unfold better; simp only; rw [if_pos hlt])
        refine ⟨m1, cs1, e1, ltP_nt ?_ l1⟩
        unfold ltP
        simp only
        rw [if_neg (by omega)]
        exact decide_eq_false (by omega)
      · exact i1 m0 cs0 (by unfold better; simp only; rw [if_neg hlt])
    · rcases List.mem_cons.mp hk' with rfl | hk'
      · exact ⟨b1, r, h1, h2, hnew⟩
      · exact i2 k' hk'
theorem choices_sorted (b : BenchM) : b.choices.Pairwise (· < ·) := by
  unfold choices
  exact List.Pairwise.filter _ List.pairwise_lt_range
theorem least_le : ∀ {n : Nat} {b : BenchM} {row : List Int} {m0 : Int} {cs0 : List Int}, least n b row = some (m0, cs0) → ∀ {m : Int} {cs : List Int}, Way b row m cs → ltP (m, cs) (m0, cs0) = false
  | 0, _, _, _, _, h, _, _, _ => by cases h
  | n + 1, b, row, m0, cs0, h, m, cs, w => by
    unfold least at h
    obtain ⟨⟨rest, be⟩, h1, h⟩ := Option.bind_eq_some_iff.mp h
    obtain ⟨w2, hne⟩ := run_strip h1 w
    cases rest with
    | nil =>
      cases Option.some.inj h
      cases w2
      exact ltP_self _
    | cons z r =>
      obtain ⟨res, h2, h3⟩ := Option.bind_eq_some_iff.mp h
      have hnr := hne (by simp)
      cases w2 with
      | put h4 _ _ => rw [hnr] at h4; cases h4
      | make _ hk hc w3 =>
        rename_i b1 m' cs' k hq
        obtain ⟨b1', r', e1, e2, m1, cs1, e3, l1⟩ := (bestOf_le (choices_sorted be) (fun _ _ e => by cases e) h2).2 k hk
        rw [hc] at e1
        cases Option.some.inj e1
        have ih := least_le (m0 := r'.1) (cs0 := r'.2) e2 w3
        have e4 : some (m1, cs1) = some (m0, cs0) := by rw [← e3]; exact h3
        cases Option.some.inj e4
        exact ltP_nt (ltP_shift _ _ ih) l1
end BenchM
namespace BenchM
def lives (b : BenchM) : List Int := b.stacks.flatten.filterMap id
def ln (b : BenchM) (k : Nat) : Nat := (b.stacks.getD k []).length
theorem kill_cons (z : Int) (x : Option Int) (st : List (Option Int)) : kill z (x :: st) = if x = some z then none :: st else x :: kill z st := by
  unfold kill
  by_cases h : x = some z
  · subst h
    simp
  · rw [if_neg h]
    have h2 : ¬ some z = x := fun q => h q.symm
    have h3 : (x == some z) = false := beq_eq_false_iff_ne.mpr h
    by_cases hm : some z ∈ st
    · rw [if_pos (List.mem_cons_of_mem _ hm), if_pos hm, List.idxOf_cons, h3]; rfl
    · rw [if_neg (by simp [h2, hm]), if_neg hm]
theorem kill_erase (z : Int) : ∀ st : List (Option Int), (kill z st).filterMap id = (st.filterMap id).erase z
  | [] => by simp [kill]
  | x :: st => by
    rw [kill_cons]
    by_cases h : x = some z
    · subst h; simp
    · rw [if_neg h]
      cases x with
      | none => simpa using kill_erase z st
      | some y =>
        have hy : ¬ y = z := fun q => h (by rw [q])
        have h3 : (y == z) = false := beq_eq_false_iff_ne.mpr hy
        simp only [List.filterMap_cons, id]
        rw [kill_erase z st, List.erase_cons, h3]; rfl
theorem flat_map_sub (f : List (Option Int) → List (Option Int)) (hf : ∀ st, ((f st).filterMap id).Sublist (st.filterMap id)) : ∀ l : List (List (Option Int)), ((l.map f).flatten.filterMap id).Sublist (l.flatten.filterMap id)
  | [] => .slnil
  | x :: l => by
    rw [List.map_cons, List.flatten_cons, List.flatten_cons, List.filterMap_append, List.filterMap_append]
    exact (hf x).append (flat_map_sub f hf l)
theorem killed_sub (b : BenchM) (z : Int) : ((b.killed z).lives).Sublist b.lives :=
  flat_map_sub (kill z) (fun st => by rw [kill_erase]; exact List.erase_sublist) b.stacks
theorem mem_lives {b : BenchM} {s : Int} : s ∈ b.lives ↔ ∃ st ∈ b.stacks, s ∈ st.filterMap id := by
  unfold lives
  simp only [List.mem_filterMap, List.mem_flatten, id]
  constructor
  · rintro ⟨a, ⟨l, h1, h2⟩, rfl⟩; exact ⟨l, h1, some s, h2, rfl⟩
  · rintro ⟨l, h1, a, h2, rfl⟩; exact ⟨some s, ⟨l, h1, h2⟩, rfl⟩
theorem st_nodup {b : BenchM} (h : b.lives.Nodup) {st : List (Option Int)} (hs : st ∈ b.stacks) : (st.filterMap id).Nodup :=
  h.sublist ((List.sublist_flatten_of_mem hs).filterMap id)
theorem killed_not_mem {b : BenchM} (h : b.lives.Nodup) (z : Int) : z ∉ (b.killed z).lives := by
  intro hz
  obtain ⟨st, h1, h2⟩ := mem_lives.mp hz
  obtain ⟨st0, h3, rfl⟩ := List.mem_map.mp (show st ∈ b.stacks.map (kill z) from h1)
  rw [kill_erase] at h2
  exact (st_nodup h h3).not_mem_erase h2
/-- one page more in block j -/
theorem set_perm {α : Type} : ∀ {l : List (List α)} {j : Nat} {x : α}, j < l.length → ((l.set j (l.getD j [] ++ [x])).flatten).Perm (x :: l.flatten)
  | [], _, _, h => by simp at h
  | y :: l, 0, x, _ => by
    show ((y ++ [x]) ++ l.flatten).Perm (x :: (y ++ l.flatten))
    rw [List.append_assoc]
    exact List.perm_middle
  | y :: l, j + 1, x, h => by
    show (y ++ (l.set j (l.getD j [] ++ [x])).flatten).Perm (x :: (y ++ l.flatten))
    exact ((set_perm (by simpa using h)).append_left y).trans List.perm_middle
theorem lay_lives {b b' : BenchM} {z : Int} (ok : b.ok) (h : b.layDown z = some b') : b'.lives.Perm (z :: (b.killed z).lives) := by
  unfold layDown at h
  obtain ⟨j, hj, rfl⟩ := Option.map_eq_some_iff.mp h
  obtain ⟨h1, _⟩ := spot_lt (killed_ok z ok) hj
  exact (set_perm h1).filterMap id
theorem lay_nd {b b' : BenchM} {z : Int} (ok : b.ok) (nd : b.lives.Nodup) (h : b.layDown z = some b') : b'.lives.Nodup := by
  rw [(lay_lives ok h).nodup_iff, List.nodup_cons]
  exact ⟨killed_not_mem nd z, nd.sublist (killed_sub b z)⟩
theorem lay_sub {b b' : BenchM} {z : Int} {N : List Int} (ok : b.ok) (sb : ∀ s ∈ b.lives, s ∈ N) (hz : z ∈ N) (h : b.layDown z = some b') : ∀ s ∈ b'.lives, s ∈ N := by
  intro s hs
  rcases List.mem_cons.mp ((lay_lives ok h).mem_iff.mp hs) with rfl | h2
  · exact hz
  · exact sb s ((killed_sub b z).subset h2)
theorem killed_getD (b : BenchM) (z : Int) (k : Nat) : (b.killed z).stacks.getD k [] = kill z (b.stacks.getD k []) := by
  unfold killed
  rw [List.getD_eq_getElem?_getD, List.getD_eq_getElem?_getD, List.getElem?_map]
  cases b.stacks[k]? <;> simp [kill]
theorem killed_ln (b : BenchM) (z : Int) (k : Nat) : (b.killed z).ln k = b.ln k := by unfold ln; rw [killed_getD, kill_len]
theorem killed_partly (b : BenchM) (z : Int) (k : Nat) : (b.killed z).partly k = b.partly k := by
  have := killed_ln b z k
  unfold ln at this
  unfold partly
  rw [this]; rfl
theorem killed_begun (b : BenchM) (z : Int) : (b.killed z).begun = b.begun := by
  unfold begun
  have h1 : (b.killed z).stacks.length = b.stacks.length := by simp [killed]
  have h2 : (b.killed z).partly = b.partly := funext (killed_partly b z)
  rw [h1, h2]
theorem isEmpty_len {α : Type} (l : List α) : l.isEmpty = decide (l.length = 0) := by cases l <;> simp
theorem killed_empty (b : BenchM) (z : Int) : (b.killed z).emptyPairs = b.emptyPairs := by
  unfold emptyPairs
  have h1 : (b.killed z).stacks.length = b.stacks.length := by simp [killed]
  have h2 : (fun k => ((b.killed z).stacks.getD k []).isEmpty) = fun k => (b.stacks.getD k []).isEmpty := by
    funext k
    rw [isEmpty_len, isEmpty_len, killed_getD, kill_len]
  rw [h1, h2]; rfl
theorem killed_spot (b : BenchM) (z : Int) : (b.killed z).spot = b.spot := by
  unfold spot emptyOnes
  rw [killed_begun, killed_empty]
/-- the empty blocks -/
def emp (b : BenchM) : List Nat := (List.range b.stacks.length).filter fun k => (b.stacks.getD k []).isEmpty
theorem emp_len (b : BenchM) : b.emptyOnes.length = b.emp.length := by
  unfold emptyOnes emp
  rw [List.length_map, (srtP_perm _).length_eq]
  unfold emptyPairs
  rw [List.length_map]
theorem mem_emp {b : BenchM} {k : Nat} : k ∈ b.emp ↔ k < b.stacks.length ∧ b.ln k = 0 := by
  unfold emp ln
  rw [List.mem_filter, List.mem_range, isEmpty_len, decide_eq_true_eq]
theorem emp_nd (b : BenchM) : b.emp.Nodup := List.nodup_range.filter _
theorem two_of {l : List Nat} (nd : l.Nodup) (h : 2 ≤ l.length) (j : Nat) : ∃ k ∈ l, k ≠ j := by
  match l, nd, h with
  | a :: c :: r, nd, _ =>
    have hac : a ≠ c := fun e => (List.nodup_cons.mp nd).1 (by rw [e]; exact List.mem_cons_self)
    by_cases e : a = j
    · exact ⟨c, by simp, fun q => hac (e.trans q.symm)⟩
    · exact ⟨a, by simp, e⟩
theorem two_le {l : List Nat} {a c : Nat} (ha : a ∈ l) (hc : c ∈ l) (h : a ≠ c) : 2 ≤ l.length := by
  match l, ha, hc with
  | [x], ha, hc =>
    rw [List.mem_singleton] at ha hc
    exact absurd (ha.trans hc.symm) h
  | x :: y :: r, _, _ => simp
theorem ready_iff {b : BenchM} : b.isReady = true ↔ 2 ≤ b.emp.length ∨ (b.emp.length = 1 ∧ ∃ k, b.begun = some k) := by
  unfold isReady
  rw [emp_len, Bool.or_eq_true, Bool.and_eq_true, decide_eq_true_eq, decide_eq_true_eq, Option.isSome_iff_exists]
  exact Iff.rfl
theorem begun_at {b : BenchM} {k : Nat} (h : b.begun = some k) : k < b.stacks.length ∧ b.partly k = true :=
  ⟨by have := List.mem_of_find?_eq_some h; simpa using this, List.find?_some h⟩
theorem begun_no {b : BenchM} (h : b.begun = none) {k : Nat} (hk : k < b.stacks.length) : b.partly k = false := by
  have := List.find?_eq_none.mp h k (by simpa using hk)
  simpa using this
theorem partly_iff {b : BenchM} {k : Nat} : b.partly k = true ↔ 0 < b.ln k ∧ (b.ln k : Int) < b.pages := by
  unfold partly ln
  rw [Bool.and_eq_true, decide_eq_true_eq, decide_eq_true_eq]
theorem ln_le {b : BenchM} (ok : b.ok) (k : Nat) : (b.ln k : Int) ≤ b.pages := by
  unfold ln
  rw [List.getD_eq_getElem?_getD]
  cases h : b.stacks[k]? with
  | none => have := ok.1; simp; omega
  | some r => exact ok.2.2.2.2 r (List.mem_of_getElem? h)
theorem ln_out {b : BenchM} {k : Nat} (h : ¬ k < b.stacks.length) : b.ln k = 0 := by
  unfold ln
  rw [List.getD_eq_getElem?_getD, List.getElem?_eq_none (by omega)]; rfl
theorem getD_set {α : Type} {l : List (List α)} {j k : Nat} {x : List α} (hj : j < l.length) : (l.set j x).getD k [] = if k = j then x else l.getD k [] := by
  rw [List.getD_eq_getElem?_getD, List.getD_eq_getElem?_getD, List.getElem?_set]
  by_cases e : j = k
  · subst e; simp [hj]
  · rw [if_neg e, if_neg fun z => e z.symm]
/-- what a laying down does to the lengths -/
theorem lay_ln {b b' : BenchM} {z : Int} (ok : b.ok) (h : b.layDown z = some b') : ∃ j, b.spot = some j ∧ j < b.stacks.length ∧ ∀ k, b'.ln k = if k = j then b.ln j + 1 else b.ln k := by
  unfold layDown at h
  obtain ⟨j, hj, rfl⟩ := Option.map_eq_some_iff.mp h
  obtain ⟨h1, _⟩ := spot_lt (killed_ok z ok) hj
  have h2 : j < b.stacks.length := by simpa [killed] using h1
  refine ⟨j, by rw [← killed_spot b z]; exact hj, h2, fun k => ?_⟩
  show (((b.killed z).stacks.set j ((b.killed z).stacks.getD j [] ++ [some z])).getD k []).length = _
  rw [getD_set h1]
  by_cases e : k = j
  · rw [if_pos e, if_pos e, List.length_append, List.length_singleton]
    have := killed_ln b z j
    unfold ln at this ⊢
    omega
  · rw [if_neg e, if_neg e]
    exact killed_ln b z k
theorem spot_begun {b : BenchM} {k : Nat} (h : b.begun = some k) : b.spot = some k := by unfold spot; rw [h]
theorem spot_empty {b : BenchM} (h : b.begun = none) (he : b.emp ≠ []) : ∃ k, b.spot = some k ∧ k ∈ b.emp := by
  have hl : 0 < b.emptyOnes.length := by rw [emp_len]; exact List.length_pos_iff.mpr he
  unfold spot
  rw [h]
  cases ho : b.emptyOnes with
  | nil => rw [ho] at hl; simp at hl
  | cons z r =>
    obtain ⟨h1, h2, h3⟩ := emptyOnes_lt (b := b) (z := z) (by rw [ho]; exact List.mem_cons_self)
    exact ⟨z.toNat, rfl, mem_emp.mpr ⟨by omega, by unfold ln; rw [h3]; rfl⟩⟩
theorem lay_some {b : BenchM} {z : Int} {k : Nat} (h : b.spot = some k) : ∃ b', b.layDown z = some b' := by
  unfold layDown
  rw [killed_spot, h]
  exact ⟨_, rfl⟩
end BenchM
namespace BenchM
theorem sub_len : ∀ {l l' : List Int}, l.Nodup → (∀ s ∈ l, s ∈ l') → l.length ≤ l'.length
  | [], _, _, _ => Nat.zero_le _
  | a :: l, l', nd, h => by
    obtain ⟨h1, h2⟩ := List.nodup_cons.mp nd
    have ha := h a List.mem_cons_self
    have ih := sub_len (l' := l'.erase a) h2 fun s hs => (List.mem_erase_of_ne (fun q => h1 (by rw [← q]; exact hs))).mpr (h s (List.mem_cons_of_mem _ hs))
    rw [List.length_erase_of_mem ha] at ih
    have := List.length_pos_of_mem ha
    rw [List.length_cons]; omega
structure G (N : List Int) (b : BenchM) : Prop where
  ok : b.ok
  nd : b.lives.Nodup
  sub : ∀ s ∈ b.lives, s ∈ N
  one : ∀ i j, b.partly i = true → b.partly j = true → i = j
  emp : b.emp ≠ []
  cst : (N.length : Int) + 2 ≤ ((b.stacks.length : Int) - 1) * b.pages
theorem partly_lt {b : BenchM} {i : Nat} (h : b.partly i = true) : i < b.stacks.length := by
  rcases Nat.lt_or_ge i b.stacks.length with h' | h'
  · exact h'
  · have := (partly_iff.mp h).1
    rw [ln_out (by omega)] at this; omega
theorem G.of_lay {N : List Int} {b b' : BenchM} {z : Int} {j : Nat} (g : G N b) (hz : z ∈ N) (h : b.layDown z = some b') (hl : ∀ k, b'.ln k = if k = j then b.ln j + 1 else b.ln k)
    (hone : ∀ i, i ≠ j → b.partly i = false) (hemp : ∃ e ∈ b.emp, e ≠ j) : G N b' := by
  obtain ⟨p1, p2, p3, p4⟩ := layDown_ok g.ok h
  have only : ∀ i, b'.partly i = true → i = j := fun i hi => by
    by_cases e : i = j
    · exact e
    · have h1 := partly_iff.mp hi
      rw [hl i, if_neg e, p3] at h1
      have h2 := partly_iff.mpr h1
      rw [hone i e] at h2; cases h2
  refine ⟨p1, lay_nd g.ok g.nd h, lay_sub g.ok g.sub hz h, fun i i' h1 h2 => (only i h1).trans (only i' h2).symm, ?_, by rw [p2, p3]; exact g.cst⟩
  obtain ⟨e, he, hne⟩ := hemp
  obtain ⟨e1, e2⟩ := mem_emp.mp he
  exact List.ne_nil_of_mem (mem_emp.mpr ⟨by rw [p2]; exact e1, by rw [hl e, if_neg hne]; exact e2⟩)
theorem G.lay {N : List Int} {b : BenchM} {z : Int} (g : G N b) (hr : b.isReady = true) (hz : z ∈ N) : ∃ b', b.layDown z = some b' ∧ G N b' := by
  cases hb : b.begun with
  | none =>
    have h2 : 2 ≤ b.emp.length := by
      rcases ready_iff.mp hr with h | ⟨_, k, h⟩
      · exact h
      · rw [hb] at h; cases h
    obtain ⟨k, hs, hk⟩ := spot_empty hb g.emp
    obtain ⟨b', hb'⟩ := lay_some (z := z) hs
    obtain ⟨j, hj, _, hl⟩ := lay_ln g.ok hb'
    refine ⟨b', hb', g.of_lay hz hb' hl (fun i _ => ?_) (two_of (emp_nd b) h2 j)⟩
    cases hp : b.partly i with
    | false => rfl
    | true => rw [begun_no hb (partly_lt hp)] at hp; cases hp
  | some k =>
    obtain ⟨h1, h2⟩ := begun_at hb
    obtain ⟨b', hb'⟩ := lay_some (z := z) (spot_begun hb)
    obtain ⟨j, hj, _, hl⟩ := lay_ln g.ok hb'
    rw [spot_begun hb] at hj
    cases Option.some.inj hj
    refine ⟨b', hb', g.of_lay hz hb' hl (fun i hi => ?_) ?_⟩
    · cases hp : b.partly i with
      | false => rfl
      | true => exact absurd (g.one i k hp h2) hi
    · obtain ⟨e, he⟩ := List.exists_mem_of_ne_nil _ g.emp
      refine ⟨e, he, fun q => ?_⟩
      subst q
      have := (mem_emp.mp he).2
      have := (partly_iff.mp h2).1
      omega
structure Sh (b : BenchM) (e : Nat) : Prop where
  lt : e < b.stacks.length
  full : ∀ i, i < b.stacks.length → i ≠ e → (b.ln i : Int) = b.pages
theorem G.shape {N : List Int} {b : BenchM} (g : G N b) (hr : b.isReady = false) : ∃ e, Sh b e ∧ b.ln e = 0 ∧ b.emp.length = 1 := by
  have hnr : ¬ b.isReady = true := by rw [hr]; simp
  rw [ready_iff] at hnr
  have hpos : 0 < b.emp.length := List.length_pos_iff.mpr g.emp
  have h1 : b.emp.length = 1 := by
    rcases Nat.lt_or_ge b.emp.length 2 with h | h
    · omega
    · exact absurd (Or.inl h) hnr
  have hb : b.begun = none := by
    cases hb : b.begun with
    | none => rfl
    | some k => exact absurd (Or.inr ⟨h1, k, hb⟩) hnr
  obtain ⟨e, he⟩ := List.exists_mem_of_ne_nil _ g.emp
  obtain ⟨e1, e2⟩ := mem_emp.mp he
  refine ⟨e, ⟨e1, fun i hi hne => ?_⟩, e2, h1⟩
  have h3 := begun_no hb hi
  have h4 : ¬ (0 < b.ln i ∧ (b.ln i : Int) < b.pages) := fun q => by
    have := partly_iff.mpr q
    rw [h3] at this; cases this
  have h5 := ln_le g.ok i
  have h6 : b.ln i ≠ 0 := fun q => by
    have := two_le (mem_emp.mpr ⟨hi, q⟩) he hne
    omega
  omega
theorem Sh.spot {b : BenchM} {e : Nat} (s : Sh b e) (ok : b.ok) (hc : (b.ln e : Int) < b.pages) : b.spot = some e := by
  cases hb : b.begun with
  | some k =>
    obtain ⟨h1, h2⟩ := begun_at hb
    rw [spot_begun hb]
    by_cases q : k = e
    · rw [q]
    · have := s.full k h1 q
      have := (partly_iff.mp h2).2
      omega
  | none =>
    have h3 := begun_no hb s.lt
    have h4 : b.ln e = 0 := by
      rcases Nat.eq_zero_or_pos (b.ln e) with h | h
      · exact h
      · have := partly_iff.mpr ⟨h, hc⟩
        rw [h3] at this; cases this
    obtain ⟨k, h5, h6⟩ := spot_empty hb (List.ne_nil_of_mem (mem_emp.mpr ⟨s.lt, h4⟩))
    obtain ⟨h7, h8⟩ := mem_emp.mp h6
    rw [h5]
    by_cases q : k = e
    · rw [q]
    · have := s.full k h7 q
      have := ok.1
      omega
theorem lays {N : List Int} {e : Nat} : ∀ {ms : List Int} {b : BenchM}, b.ok → Sh b e → (b.ln e : Int) + ms.length < b.pages → b.lives.Nodup → (∀ s ∈ b.lives, s ∈ N) → (∀ s ∈ ms, s ∈ N) →
    ∃ b1, layAll ms b = some b1 ∧ Sh b1 e ∧ b1.ln e = b.ln e + ms.length ∧ b1.lives.Nodup ∧ (∀ s ∈ b1.lives, s ∈ N)
  | [], b, _, s, _, nd, sb, _ => ⟨b, rfl, s, rfl, nd, sb⟩
  | z :: ms, b, ok, s, hc, nd, sb, hm => by
    rw [List.length_cons] at hc
    obtain ⟨b', hb'⟩ := lay_some (z := z) (s.spot ok (by omega))
    obtain ⟨j, hj, _, hl⟩ := lay_ln ok hb'
    rw [s.spot ok (by omega)] at hj
    cases Option.some.inj hj
    obtain ⟨p1, p2, p3, p4⟩ := layDown_ok ok hb'
    have he : b'.ln e = b.ln e + 1 := by rw [hl e, if_pos rfl]
    obtain ⟨b1, q1, q2, q3, q4, q5⟩ := lays (ms := ms) (b := b') p1 ⟨by rw [p2]; exact s.lt, fun i hi hne => by rw [hl i, if_neg hne, p3]; exact s.full i (by rw [← p2]; exact hi) hne⟩ (by rw [he, p3]; omega) (lay_nd ok nd hb') (lay_sub ok sb (hm z List.mem_cons_self) hb') fun s hs => hm s (List.mem_cons_of_mem _ hs)
    refine ⟨b1, ?_, q2, by rw [q3, he, List.length_cons]; omega, q4, q5⟩
    show (b.layDown z).bind (layAll ms) = some b1
    rw [hb']; exact q1
theorem fm_lt : ∀ {st : List (Option Int)}, none ∈ st → (st.filterMap id).length < st.length
  | none :: st, _ => by
    have := List.length_filterMap_le id st
    simp only [List.filterMap_cons, id, List.length_cons]
    exact Nat.lt_succ_of_le this
  | some x :: st, h => by
    have : none ∈ st := by simpa using h
    have := fm_lt this
    simp only [List.filterMap_cons, id, List.length_cons]
    exact Nat.succ_lt_succ this
theorem fm_eq : ∀ {st : List (Option Int)}, none ∉ st → (st.filterMap id).length = st.length
  | [], _ => rfl
  | none :: st, h => absurd List.mem_cons_self h
  | some x :: st, h => by
    have := fm_eq (st := st) (fun q => h (List.mem_cons_of_mem _ q))
    simp only [List.filterMap_cons, id, List.length_cons]
    exact congrArg Nat.succ this
theorem flat_set_nil {α : Type} : ∀ (l : List (List α)) (k : Nat), ((l.set k []).flatten).Sublist l.flatten
  | [], _ => .slnil
  | x :: l, 0 => by
    show (([] : List α) ++ l.flatten).Sublist (x ++ l.flatten)
    exact List.sublist_append_right x l.flatten
  | x :: l, k + 1 => by
    show (x ++ (l.set k []).flatten).Sublist (x ++ l.flatten)
    exact (flat_set_nil l k).append_left x
theorem mem_choices {b : BenchM} {k : Nat} : k ∈ b.choices ↔ k < b.stacks.length ∧ (b.ln k : Int) = b.pages ∧ none ∈ b.stacks.getD k [] := by
  unfold choices full ln
  rw [List.mem_filter, List.mem_range, Bool.and_eq_true, decide_eq_true_eq, decide_eq_true_eq]
theorem getD_mem {α : Type} {l : List (List α)} {k : Nat} (h : k < l.length) : l.getD k [] ∈ l := by
  rw [List.getD_eq_getElem?_getD, List.getElem?_eq_getElem h]
  exact List.getElem_mem h
theorem G.clear {N : List Int} {b : BenchM} {k : Nat} (g : G N b) (hr : b.isReady = false) (hk : k ∈ b.choices) : ∃ b1, b.clearOut k = some b1 ∧ G N b1 ∧ b1.isReady = true := by
  obtain ⟨e, sh, he, h1⟩ := g.shape hr
  obtain ⟨k1, k2, k3⟩ := mem_choices.mp hk
  have hp := g.ok.1
  have hke : k ≠ e := fun q => by subst q; rw [he] at k2; have : ((0 : Nat) : Int) = b.pages := k2; omega
  have hmv : (b.moved k).length < b.ln k := fm_lt k3
  have hms : ∀ s ∈ b.moved k, s ∈ N := fun s hs => g.sub s (mem_lives.mpr ⟨_, getD_mem k1, hs⟩)
  obtain ⟨b1, q1, q2, q3, q4, q5⟩ := lays (N := N) (e := e) (ms := b.moved k) (b := b) g.ok sh (by rw [he]; have : ((0 : Nat) : Int) = 0 := rfl; omega) g.nd g.sub hms
  obtain ⟨p1, p2, p3, p4⟩ := layAll_ok g.ok q1
  have hc : b.clearOut k = some { b1 with stacks := b1.stacks.set k [], times := b1.times.set k (b1.times.getD k 0 + 1) } := by
    unfold clearOut
    rw [q1]; rfl
  obtain ⟨c1, c2, c3⟩ := clearOut_ok g.ok hc
  generalize hb2 : ({ b1 with stacks := b1.stacks.set k [], times := b1.times.set k (b1.times.getD k 0 + 1) } : BenchM) = b2 at hc c1 c2 c3
  have hst : b2.stacks = b1.stacks.set k [] := by rw [← hb2]
  have hln : ∀ i, b2.ln i = if i = k then 0 else b1.ln i := fun i => by
    unfold ln
    rw [hst, getD_set (by rw [p2]; exact k1)]
    by_cases q : i = k
    · rw [if_pos q, if_pos q]; rfl
    · rw [if_neg q, if_neg q]
  have hsub : b2.lives.Sublist b1.lives := by
    unfold lives
    rw [hst]
    exact (flat_set_nil b1.stacks k).filterMap id
  have hkm : k ∈ b2.emp := mem_emp.mpr ⟨by rw [c2]; exact k1, by rw [hln k, if_pos rfl]⟩
  have hle : b2.ln e = (b.moved k).length := by rw [hln e, if_neg (fun q => hke q.symm), q3, he, Nat.zero_add]
  have only : ∀ i, b2.partly i = true → i = e := fun i hi => by
    by_cases q : i = e
    · exact q
    · have h2 := partly_iff.mp hi
      have hil := partly_lt hi
      rw [hln i] at h2
      by_cases q2' : i = k
      · rw [if_pos q2'] at h2; omega
      · rw [if_neg q2'] at h2
        have := q2.full i (by rw [p2, ← c2]; exact hil) q
        omega
  refine ⟨b2, hc, ⟨c1, q4.sublist hsub, fun s hs => q5 s (hsub.subset hs), fun i j h2 h3 => (only i h2).trans (only j h3).symm, List.ne_nil_of_mem hkm, by rw [c2, c3]; exact g.cst⟩, ?_⟩
  rw [ready_iff]
  rcases Nat.eq_zero_or_pos (b.moved k).length with h | h
  · exact Or.inl (two_le hkm (mem_emp.mpr ⟨by rw [c2]; exact sh.lt, by rw [hle, h]⟩) hke)
  · have hpe : b2.partly e = true := partly_iff.mpr ⟨by omega, by rw [hle, c3]; omega⟩
    have hpos : 0 < b2.emp.length := List.length_pos_of_mem hkm
    rcases Nat.lt_or_ge b2.emp.length 2 with h2 | h2
    · refine Or.inr ⟨by omega, ?_⟩
      cases hb : b2.begun with
      | some j => exact ⟨j, rfl⟩
      | none => rw [begun_no hb (partly_lt hpe)] at hpe; cases hpe
    · exact Or.inl h2
theorem count (P : Nat) : ∀ l : List (List (Option Int)), (∀ st ∈ l, st = [] ∨ (st.filterMap id).length = P) → P * l.length ≤ (l.flatten.filterMap id).length + P * (l.filter (·.isEmpty)).length
  | [], _ => by simp
  | st :: l, h => by
    have ih := count P l fun x hx => h x (List.mem_cons_of_mem _ hx)
    rw [List.flatten_cons, List.filterMap_append, List.length_append, List.length_cons, Nat.mul_add, Nat.mul_one]
    rcases h st List.mem_cons_self with rfl | h1
    · simp only [List.filter_cons, List.isEmpty_nil, if_true, List.length_cons, Nat.mul_add, Nat.mul_one]
      simp only [List.filterMap_nil, List.length_nil]
      omega
    · have h2 : (l.filter (·.isEmpty)).length ≤ ((st :: l).filter (·.isEmpty)).length := by
        rw [List.filter_cons]; split <;> simp
      have h3 : P * (l.filter (·.isEmpty)).length ≤ P * ((st :: l).filter (·.isEmpty)).length := Nat.mul_le_mul_left P h2
      omega
theorem range_getD {α : Type} (l : List (List α)) : (List.range l.length).map (fun k => l.getD k []) = l := by
  apply List.ext_getElem
  · simp
  · intro i h1 h2
    simp [h2]
theorem emp_filter (b : BenchM) : b.emp.length = (b.stacks.filter (·.isEmpty)).length := by
  conv => rhs; rw [← range_getD b.stacks]
  rw [List.filter_map, List.length_map]
  rfl
theorem G.choice {N : List Int} {b : BenchM} (g : G N b) (hr : b.isReady = false) : b.choices ≠ [] := by
  intro hc
  obtain ⟨e, sh, he, h1⟩ := g.shape hr
  have hp := g.ok.1
  have hall : ∀ st ∈ b.stacks, st = [] ∨ (st.filterMap id).length = b.pages.toNat := by
    intro st hst
    obtain ⟨i, hi, rfl⟩ := List.getElem_of_mem hst
    have hD : b.stacks.getD i [] = b.stacks[i] := getD_of (by simp [hi])
    by_cases q : i = e
    · left
      subst q
      have : (b.stacks.getD i []).length = 0 := he
      rw [hD] at this
      exact List.length_eq_zero_iff.mp this
    · right
      have h2 := sh.full i hi q
      have h3 : none ∉ b.stacks[i] := fun hn => by
        have : i ∈ b.choices := mem_choices.mpr ⟨hi, h2, by rw [hD]; exact hn⟩
        rw [hc] at this; cases this
      rw [fm_eq h3]
      unfold ln at h2
      rw [hD] at h2
      omega
  have h2 := count b.pages.toNat b.stacks hall
  rw [← emp_filter, h1, Nat.mul_one] at h2
  have h3 := sub_len g.nd g.sub
  have h4 := g.cst
  rw [Int.sub_mul, Int.one_mul] at h4
  have h5 : ((b.pages.toNat * b.stacks.length : Nat) : Int) = (b.stacks.length : Int) * b.pages := by rw [Int.natCast_mul, Int.toNat_of_nonneg (by omega), Int.mul_comm]
  have h6 : b.lives.length = (b.stacks.flatten.filterMap id).length := rfl
  omega
end BenchM
namespace BenchM
theorem run_ok {N : List Int} : ∀ {row : List Int} {b : BenchM}, G N b → (∀ z ∈ row, z ∈ N) → ∃ rest be, run row b = some (rest, be) ∧ G N be ∧ (rest ≠ [] → be.isReady = false) ∧ (∀ z ∈ rest, z ∈ N) ∧ rest.length ≤ row.length ∧ (b.isReady = true → rest ≠ [] → rest.length < row.length)
  | [], b, g, hz => ⟨[], b, rfl, g, fun h => absurd rfl h, hz, Nat.le_refl _, fun _ h => absurd rfl h⟩
  | z :: r, b, g, h => by
    by_cases hr : b.isReady = true
    · obtain ⟨b', h1, g1⟩ := g.lay hr (h z List.mem_cons_self)
      obtain ⟨rest, be, h2, h3, h4, h5, h6, _⟩ := run_ok (row := r) g1 fun y hy => h y (List.mem_cons_of_mem _ hy)
      refine ⟨rest, be, ?_, h3, h4, h5, by rw [List.length_cons]; omega, fun _ _ => by rw [List.length_cons]; omega⟩
      unfold run
      rw [if_pos hr, h1]
      exact h2
    · refine ⟨z :: r, b, ?_, g, fun _ => Bool.eq_false_iff.mpr hr, h, Nat.le_refl _, fun q => absurd q hr⟩
      unfold run
      rw [if_neg hr]
theorem bestOf_ok {rec : BenchM → List Int → Option (Int × List Int)} {b : BenchM} {row : List Int} : ∀ {ks : List Nat} {best : Option (Int × List Int)}, (∀ k ∈ ks, ∃ b1 r, b.clearOut k = some b1 ∧ rec b1 row = some r) → (ks ≠ [] ∨ best ≠ none) → ∃ p, bestOf rec b row ks best = some (some p)
  | [], none, _, h => by rcases h with h | h <;> exact absurd rfl h
  | [], some p, _, _ => ⟨p, rfl⟩
  | k :: ks, best, hk, _ => by
    obtain ⟨b1, r, h1, h2⟩ := hk k List.mem_cons_self
    obtain ⟨p, hp⟩ := bestOf_ok (ks := ks) (best := better best ((b.moved k).length + r.1) ((k : Int) :: r.2)) (fun k' hk' => hk k' (List.mem_cons_of_mem _ hk')) (Or.inr (by
      unfold better
      split
      · simp
      · split <;> simp))
    refine ⟨p, ?_⟩
    show (b.clearOut k).bind _ = _
    rw [h1]
    show (rec b1 row).bind _ = _
    rw [h2]
    exact hp
theorem least_ok {N : List Int} : ∀ {n : Nat} {b : BenchM} {row : List Int}, G N b → (∀ z ∈ row, z ∈ N) → row.length + (if b.isReady = true then 0 else 1) < n → ∃ p, least n b row = some p
  | 0, _, _, _, _, h => absurd h (Nat.not_lt_zero _)
  | n + 1, b, row, g, hz, hn => by
    obtain ⟨rest, be, h1, h2, h3, h4, h5, h6⟩ := run_ok g hz
    cases rest with
    | nil => exact ⟨(0, []), by unfold least; rw [h1]; rfl⟩
    | cons z r =>
      have hnr := h3 (by simp)
      have hlen : (z :: r).length < n := by
        by_cases hr : b.isReady = true
        · have := h6 hr (by simp)
          rw [if_pos hr] at hn; omega
        · rw [if_neg hr] at hn; omega
      obtain ⟨p, hp⟩ := bestOf_ok (rec := least n) (b := be) (row := z :: r) (ks := be.choices) (best := none) (fun k hk => by
        obtain ⟨b1, c1, c2, c3⟩ := h2.clear hnr hk
        obtain ⟨p, hp⟩ := least_ok (n := n) c2 h4 (by rw [if_pos c3]; omega)
        exact ⟨b1, p, c1, hp⟩) (Or.inl (h2.choice hnr))
      refine ⟨p, ?_⟩
      unfold least
      rw [h1]
      show (bestOf (least n) be (z :: r) be.choices none).bind _ = _
      rw [hp]; rfl
def total (b : BenchM) : Nat := b.stacks.flatten.length
theorem killed_total (z : Int) : ∀ l : List (List (Option Int)), ((l.map (kill z)).flatten).length = l.flatten.length
  | [] => rfl
  | x :: l => by rw [List.map_cons, List.flatten_cons, List.flatten_cons, List.length_append, List.length_append, killed_total z l, kill_len]
theorem lay_total {b b' : BenchM} {z : Int} (ok : b.ok) (h : b.layDown z = some b') : b'.total = b.total + 1 := by
  unfold layDown at h
  obtain ⟨j, hj, rfl⟩ := Option.map_eq_some_iff.mp h
  obtain ⟨h1, _⟩ := spot_lt (killed_ok z ok) hj
  have := (set_perm (x := some z) h1).length_eq
  unfold total
  rw [this, List.length_cons]
  exact congrArg (· + 1) (killed_total z b.stacks)
theorem count2 (P : Nat) (hP : 1 ≤ P) : ∀ l : List (List (Option Int)), (∀ st ∈ l, st = [] ∨ st.length = P) → l.flatten.length + P * (l.filter (·.isEmpty)).length = P * l.length
  | [], _ => by simp
  | st :: l, h => by
    have ih := count2 P hP l fun x hx => h x (List.mem_cons_of_mem _ hx)
    rw [List.flatten_cons, List.length_append, List.length_cons, Nat.mul_add, Nat.mul_one]
    rcases h st List.mem_cons_self with rfl | h1
    · simp only [List.filter_cons, List.isEmpty_nil, if_true, List.length_cons, Nat.mul_add, Nat.mul_one, List.length_nil]
      omega
    · have h2 : st.isEmpty = false := by rw [isEmpty_len]; exact decide_eq_false (by omega)
      rw [List.filter_cons, h2]
      simp only [Bool.false_eq_true, if_false]
      omega
theorem G.total_at {N : List Int} {b : BenchM} (g : G N b) (hr : b.isReady = false) : (b.total : Int) = ((b.stacks.length : Int) - 1) * b.pages := by
  obtain ⟨e, sh, he, h1⟩ := g.shape hr
  have hp := g.ok.1
  have h2 := count2 b.pages.toNat (by omega) b.stacks fun st hst => by
    obtain ⟨i, hi, rfl⟩ := List.getElem_of_mem hst
    have hD : b.stacks.getD i [] = b.stacks[i] := getD_of (by simp [hi])
    by_cases q : i = e
    · left
      subst q
      have : (b.stacks.getD i []).length = 0 := he
      rw [hD] at this
      exact List.length_eq_zero_iff.mp this
    · right
      have h2 := sh.full i hi q
      unfold ln at h2
      rw [hD] at h2
      omega
  rw [← emp_filter, h1, Nat.mul_one] at h2
  rw [Int.sub_mul, Int.one_mul]
  have h5 : ((b.pages.toNat * b.stacks.length : Nat) : Int) = (b.stacks.length : Int) * b.pages := by rw [Int.natCast_mul, Int.toNat_of_nonneg (by omega), Int.mul_comm]
  unfold total
  omega
end BenchM
namespace LSt
def cell (s : LSt) (q : Int × Int) : Option Int := if s.isLive q = true then some q.1 else none
def toB (s : LSt) : BenchM := ⟨s.pages, s.held.map fun r => r.map s.cell, s.times⟩
structure St (s : LSt) : Prop where
  inc : ∀ r ∈ s.held, r.Pairwise fun p q => p.2 < q.2
  bd : ∀ r ∈ s.held, ∀ q ∈ r, q.2 ≤ s.stamp
theorem toB_getD (s : LSt) (k : Nat) : s.toB.stacks.getD k [] = (s.row k).map s.cell := by
  unfold toB row
  rw [List.getD_eq_getElem?_getD, List.getD_eq_getElem?_getD, List.getElem?_map]
  cases s.held[k]? <;> rfl
theorem toB_len (s : LSt) : s.toB.stacks.length = s.held.length := List.length_map _
theorem toB_ln (s : LSt) (k : Nat) : s.toB.ln k = (s.row k).length := by unfold BenchM.ln; rw [toB_getD, List.length_map]
theorem toB_partly (s : LSt) : s.toB.partly = s.partly := by
  funext k
  have := toB_ln s k
  unfold BenchM.ln at this
  unfold BenchM.partly partly
  rw [this]; rfl
theorem toB_begun (s : LSt) : s.toB.begun = s.begun.head? := by
  unfold BenchM.begun begun
  rw [toB_partly, toB_len, List.head?_filter]
theorem toB_emp (s : LSt) : s.toB.emp = s.empties := by
  unfold BenchM.emp empties
  rw [toB_len]
  congr 1
  funext k
  rw [toB_getD, isEmpty_map']
theorem toB_pairs (s : LSt) : s.toB.emptyPairs = s.emptyPairs := by
  have := toB_emp s
  unfold BenchM.emp at this
  unfold BenchM.emptyPairs emptyPairs
  rw [this]; rfl
theorem toB_spot (s : LSt) : s.toB.spot = s.spot := by
  unfold BenchM.spot spot BenchM.emptyOnes
  rw [toB_begun, toB_pairs]
  cases s.begun with
  | cons k r => rfl
  | nil => cases srtP s.emptyPairs <;> rfl
theorem toB_moved (s : LSt) (k : Nat) : s.toB.moved k = s.live k := by
  unfold BenchM.moved live
  rw [toB_getD]
  induction s.row k with
  | nil => rfl
  | cons q l ih =>
    rw [List.map_cons, List.filterMap_cons, List.filter_cons, ih]
    unfold cell
    cases s.isLive q <;> rfl
theorem toB_way (s : LSt) : s.toB.full = s.way := by
  funext k
  unfold BenchM.full way
  have h1 : none ∈ s.toB.stacks.getD k [] ↔ (s.live k).length < (s.row k).length := by
    rw [← toB_moved, ← toB_ln]
    constructor
    · exact BenchM.fm_lt
    · intro h
      by_cases hn : none ∈ s.toB.stacks.getD k []
      · exact hn
      · exact absurd h (by rw [show (s.toB.moved k).length = s.toB.ln k from BenchM.fm_eq hn]; exact Nat.lt_irrefl _)
  have h2 : (s.toB.stacks.getD k []).length = (s.row k).length := toB_ln s k
  rw [decide_eq_decide.mpr h1, h2]; rfl
theorem toB_ways (s : LSt) : s.toB.choices = s.ways := by
  unfold BenchM.choices ways
  rw [toB_way, toB_len]
theorem toB_short (s : LSt) (h : s.toB.emp ≠ []) : s.short = !s.toB.isReady := by
  have hpos : 0 < s.toB.emp.length := List.length_pos_iff.mpr h
  rw [toB_emp] at hpos
  unfold short
  by_cases h1 : 1 < s.empties.length
  · rw [if_pos h1, BenchM.ready_iff.mpr (Or.inl (by rw [toB_emp]; exact h1))]; rfl
  · rw [if_neg h1]
    cases hb : s.begun with
    | nil =>
      have : ¬ s.toB.isReady = true := by
        rw [BenchM.ready_iff, toB_begun, hb, toB_emp]
        rintro (h2 | ⟨_, k, h2⟩)
        · omega
        · cases h2
      rw [Bool.eq_false_iff.mpr this]; rfl
    | cons k r =>
      rw [BenchM.ready_iff.mpr (Or.inr ⟨by rw [toB_emp]; omega, k, by rw [toB_begun, hb]; rfl⟩)]; rfl
end LSt
namespace LSt
theorem kill_cells {s : LSt} {z n : Int} : ∀ {r : List (Int × Int)}, r.Pairwise (fun p q => p.2 < q.2) → (∀ q ∈ r, q.2 ≤ s.stamp) → s.stamp < n → BenchM.kill z (r.map s.cell) = r.map ({ s with newest := putI s.newest z n } : LSt).cell
  | [], _, _, _ => by simp [BenchM.kill]
  | q :: r, hp, hb, hn => by
    obtain ⟨h1, h2⟩ := List.pairwise_cons.mp hp
    have ih := kill_cells (s := s) (z := z) (n := n) h2 (fun p hp => hb p (List.mem_cons_of_mem _ hp)) hn
    have hq : q.2 ≤ s.stamp := hb q List.mem_cons_self
    have e1 : ({ s with newest := putI s.newest z n } : LSt).cell q = if q.1 = z then none else s.cell q := by
      unfold cell isLive
      show (if decide (look (putI s.newest z n) q.1 = some q.2) = true then some q.1 else none) = _
      rw [look_putI]
      by_cases hz : q.1 = z
      · rw [if_pos hz, if_pos hz, if_neg]
        rw [decide_eq_true_eq]
        intro e
        have := Option.some.inj e
        omega
      · rw [if_neg hz, if_neg hz]
    rw [List.map_cons, List.map_cons, BenchM.kill_cons, e1]
    by_cases hc : s.cell q = some z
    · rw [if_pos hc]
      have hqz : q.1 = z ∧ look s.newest q.1 = some q.2 := by
        unfold cell isLive at hc
        split at hc
        · rename_i h3
          exact ⟨Option.some.inj hc, of_decide_eq_true h3⟩
        · cases hc
      rw [if_pos hqz.1]
      congr 1
      refine List.map_congr_left fun p hp => ?_
      have hb2 : p.2 ≤ s.stamp := hb p (List.mem_cons_of_mem _ hp)
      have hlt := h1 p hp
      unfold cell isLive
      show (if decide (look s.newest p.1 = some p.2) = true then some p.1 else none) = (if decide (look (putI s.newest z n) p.1 = some p.2) = true then some p.1 else none)
      rw [look_putI]
      by_cases hz : p.1 = z
      · rw [if_pos hz, if_neg, if_neg]
        · rw [decide_eq_true_eq]
          intro e
          have := Option.some.inj e
          omega
        · rw [decide_eq_true_eq]
          intro e
          rw [hz, ← hqz.1, hqz.2] at e
          have := Option.some.inj e
          omega
      · rw [if_neg hz]
    · rw [if_neg hc, ih]
      by_cases hz : q.1 = z
      · rw [if_pos hz]
        have : s.cell q = none := by
          unfold cell at hc ⊢
          by_cases hl : s.isLive q = true
          · rw [if_pos hl, hz] at hc; exact absurd rfl hc
          · rw [if_neg hl]
        rw [this]
      · rw [if_neg hz]
theorem put_toB {s : LSt} {z : Int} {b' : BenchM} (st : St s) (ok : s.toB.ok) (h : s.toB.layDown z = some b') : ∃ s', s.put z = some s' ∧ s'.toB = b' ∧ St s' ∧ s'.stamp = s.stamp + 1 := by
  obtain ⟨k, hk, hkl, _⟩ := BenchM.lay_ln ok h
  have hs : s.spot = some k := by rw [← toB_spot]; exact hk
  have hkl2 : k < s.held.length := by rw [← toB_len]; exact hkl
  have hrow : s.row k ∈ s.held := by
    unfold row
    rw [List.getD_eq_getElem?_getD, List.getElem?_eq_getElem hkl2]
    exact List.getElem_mem hkl2
  refine ⟨{ s with held := s.held.set k (s.row k ++ [(z, s.stamp + 1)]), stamp := s.stamp + 1, newest := putI s.newest z (s.stamp + 1) }, by unfold put; rw [hs]; rfl, ?_, ?_, rfl⟩
  · unfold BenchM.layDown at h
    rw [BenchM.killed_spot, hk] at h
    rw [← Option.some.inj h]
    have hall : ∀ r ∈ s.held, r.map ({ s with newest := putI s.newest z (s.stamp + 1) } : LSt).cell = BenchM.kill z (r.map s.cell) := fun r hr => (kill_cells (st.inc r hr) (st.bd r hr) (by omega)).symm
    have hst : (s.held.set k (s.row k ++ [(z, s.stamp + 1)])).map (fun r => r.map ({ s with newest := putI s.newest z (s.stamp + 1) } : LSt).cell) = (s.toB.killed z).stacks.set k ((s.toB.killed z).stacks.getD k [] ++ [some z]) := by
      rw [List.map_set, BenchM.killed_getD, toB_getD]
      have h1 : s.held.map (fun r => r.map ({ s with newest := putI s.newest z (s.stamp + 1) } : LSt).cell) = (s.toB.killed z).stacks := by
        show _ = (s.held.map fun r => r.map s.cell).map (BenchM.kill z)
        rw [List.map_map]
        exact List.map_congr_left hall
      have h2 : (s.row k ++ [(z, s.stamp + 1)]).map ({ s with newest := putI s.newest z (s.stamp + 1) } : LSt).cell = BenchM.kill z ((s.row k).map s.cell) ++ [some z] := by
        rw [List.map_append, hall _ hrow]
        congr 1
        show [if decide (look (putI s.newest z (s.stamp + 1)) z = some (s.stamp + 1)) = true then some z else none] = [some z]
        rw [look_putI, if_pos rfl, decide_eq_true rfl, if_pos rfl]
      rw [h1, h2]
    show BenchM.mk s.pages ((s.held.set k (s.row k ++ [(z, s.stamp + 1)])).map fun r => r.map ({ s with newest := putI s.newest z (s.stamp + 1) } : LSt).cell) s.times = _
    rw [hst]; rfl
  · constructor
    · intro r hr
      rcases List.mem_or_eq_of_mem_set hr with h1 | rfl
      · exact st.inc r h1
      · refine List.pairwise_append.mpr ⟨st.inc _ hrow, List.pairwise_singleton _ _, fun p hp q hq => ?_⟩
        rw [List.mem_singleton.mp hq]
        have := st.bd _ hrow p hp
        show p.2 < s.stamp + 1
        omega
    · intro r hr q hq
      show q.2 ≤ s.stamp + 1
      rcases List.mem_or_eq_of_mem_set hr with h1 | rfl
      · have := st.bd r h1 q hq; omega
      · rcases List.mem_append.mp hq with h2 | h2
        · have := st.bd _ hrow q h2; omega
        · rw [List.mem_singleton.mp h2]; exact Int.le_refl _
theorem putAll_toB : ∀ {l : List Int} {s : LSt} {b' : BenchM}, St s → s.toB.ok → BenchM.layAll l s.toB = some b' → ∃ s', putAll l s = some s' ∧ s'.toB = b' ∧ St s'
  | [], s, b', st, _, h => ⟨s, rfl, Option.some.inj h, st⟩
  | z :: l, s, b', st, ok, h => by
    obtain ⟨b1, h1, h2⟩ := Option.bind_eq_some_iff.mp (show (s.toB.layDown z).bind (BenchM.layAll l) = some b' from h)
    obtain ⟨s1, e1, e2, e3, _⟩ := put_toB st ok h1
    subst e2
    obtain ⟨p1, _⟩ := BenchM.layDown_ok ok h1
    obtain ⟨s2, f1, f2, f3⟩ := putAll_toB e3 p1 h2
    exact ⟨s2, by show (s.put z).bind (putAll l) = some s2; rw [e1]; exact f1, f2, f3⟩
theorem cleared_toB {s : LSt} {k : Nat} {b' : BenchM} (st : St s) (ok : s.toB.ok) (h : s.toB.clearOut k = some b') : ∃ s', s.cleared k = some s' ∧ s'.toB = b' ∧ St s' := by
  unfold BenchM.clearOut at h
  rw [toB_moved] at h
  obtain ⟨b1, h1, rfl⟩ := Option.map_eq_some_iff.mp h
  obtain ⟨s1, e1, e2, e3⟩ := putAll_toB st ok h1
  subst e2
  refine ⟨{ s1 with held := s1.held.set k [], times := s1.times.set k (s1.times.getD k 0 + 1) }, by unfold cleared; rw [e1]; rfl, ?_, ?_⟩
  · show BenchM.mk s1.pages ((s1.held.set k []).map fun r => r.map s1.cell) (s1.times.set k (s1.times.getD k 0 + 1)) = _
    rw [List.map_set]; rfl
  · constructor
    · intro r hr
      rcases List.mem_or_eq_of_mem_set hr with h1 | rfl
      · exact e3.inc r h1
      · exact List.Pairwise.nil
    · intro r hr q hq
      rcases List.mem_or_eq_of_mem_set hr with h1 | rfl
      · exact e3.bd r h1 q hq
      · cases hq
theorem run_way {N picks : List Int} {most : Int} (hp : picks.length = 6) : ∀ {row : List Int} {s : LSt} {m : Int} {cs : List Int} {i : Nat}, BenchM.G N s.toB → St s → (∀ z ∈ row, z ∈ N) → ((s.toB.stacks.length : Int) - 1) * s.toB.pages = most → ((row.length + i : Nat) : Int) ≤ most + 6 →
    ((cs = [] ∧ s.toB.total = i) ∨ (cs ≠ [] ∧ (cs.length : Int) + most ≤ i)) → ∃ m2 cs2, run picks row s m cs = some (m + m2, cs ++ cs2) ∧ BenchM.Way s.toB row m2 cs2
  | [], s, m, cs, i, _, _, _, _, _, _ => ⟨0, [], by unfold run; simp, .nil _⟩
  | z :: r, s, m, cs, i, g, st, hz, hm, hl, hc => by
    have hzN := hz z List.mem_cons_self
    have hrN : ∀ y ∈ r, y ∈ N := fun y hy => hz y (List.mem_cons_of_mem _ hy)
    rw [List.length_cons] at hl
    have hsh := toB_short s g.emp
    cases hr : s.toB.isReady with
    | true =>
      rw [hr] at hsh
      obtain ⟨b', h1, g1⟩ := g.lay hr hzN
      obtain ⟨p1, p2, p3, p4⟩ := BenchM.layDown_ok g.ok h1
      have ht := BenchM.lay_total g.ok h1
      obtain ⟨s', e1, e2, e3, _⟩ := put_toB st g.ok h1
      subst e2
      obtain ⟨m2, cs2, f1, f2⟩ := run_way (picks := picks) (most := most) hp (row := r) (s := s') (m := m) (cs := cs) (i := i + 1) g1 e3 hrN (by rw [p2, p3]; exact hm) (by omega) (by
        rcases hc with ⟨h2, h3⟩ | ⟨h2, h3⟩
        · exact Or.inl ⟨h2, by omega⟩
        · exact Or.inr ⟨h2, by omega⟩)
      refine ⟨m2, cs2, ?_, .put hr h1 f2⟩
      unfold run
      rw [hsh, if_neg (by simp), e1]
      exact f1
    | false =>
      rw [hr] at hsh
      have htot := g.total_at hr
      have hlen : cs.length < 6 := by
        rcases hc with ⟨h2, h3⟩ | ⟨h2, h3⟩
        · rw [h2]; simp
        · omega
      have hcz : (cs.length : Int) + most ≤ i := by
        rcases hc with ⟨h2, h3⟩ | ⟨h2, h3⟩
        · rw [h2]; simp only [List.length_nil]; omega
        · exact h3
      have hch := g.choice hr
      rw [toB_ways] at hch
      have hpos : 0 < s.ways.length := List.length_pos_iff.mpr hch
      obtain ⟨pk, hpk⟩ : ∃ pk, picks[cs.length]? = some pk := ⟨picks[cs.length]'(by omega), by simp [show cs.length < picks.length by omega]⟩
      have hjx : (pk % (s.ways.length : Int)).toNat < s.ways.length := by
        have h1 := Int.emod_nonneg pk (show (s.ways.length : Int) ≠ 0 by omega)
        have h2 := Int.emod_lt_of_pos pk (show (0 : Int) < s.ways.length by omega)
        omega
      obtain ⟨k, hk⟩ : ∃ k, s.ways[(pk % (s.ways.length : Int)).toNat]? = some k := ⟨_, List.getElem?_eq_getElem hjx⟩
      have hkc : k ∈ s.toB.choices := by rw [toB_ways]; exact List.mem_of_getElem? hk
      obtain ⟨b1, c1, g1, r1⟩ := g.clear hr hkc
      obtain ⟨q1, q2, q3⟩ := BenchM.clearOut_ok g.ok c1
      obtain ⟨s1, e1, e2, e3⟩ := cleared_toB st g.ok c1
      subst e2
      obtain ⟨b2, h1, g2⟩ := g1.lay r1 hzN
      obtain ⟨p1, p2, p3, p4⟩ := BenchM.layDown_ok g1.ok h1
      obtain ⟨s2, d1, d2, d3, _⟩ := put_toB e3 g1.ok h1
      subst d2
      obtain ⟨m2, cs2, f1, f2⟩ := run_way (picks := picks) (most := most) hp (row := r) (s := s2) (m := m + (s.live k).length) (cs := cs ++ [(k : Int)]) (i := i + 1) g2 d3 hrN (by rw [p2, p3, q2, q3]; exact hm) (by omega) (Or.inr ⟨by simp, by rw [List.length_append, List.length_singleton]; omega⟩)
      refine ⟨(s.live k).length + m2, (k : Int) :: cs2, ?_, ?_⟩
      · unfold run
        rw [hsh, if_pos (by rfl), if_neg hch, hpk]
        show (s.ways[(pk % (s.ways.length : Int)).toNat]?).bind _ = _
        rw [hk]
        show (s.cleared k).bind _ = _
        rw [e1]
        show (s1.put z).bind _ = _
        rw [d1]
        show run picks r s2 (m + (s.live k).length) (cs ++ [(k : Int)]) = _
        rw [f1, Int.add_assoc, List.append_assoc]; rfl
      · have := BenchM.Way.make hr hkc c1 (BenchM.Way.put r1 h1 f2)
        rw [toB_moved] at this
        exact this
end LSt
theorem firstMet_le {val : Nat → Int} {N : List Int} : ∀ i, (∀ k, k < i → val k ∈ N) → (PyProof.Rows.firstMet val i).Nodup ∧ ∀ s ∈ PyProof.Rows.firstMet val i, s ∈ N
  | 0, _ => by rw [PyProof.Rows.firstMet_zero]; exact ⟨List.nodup_nil, fun s hs => by cases hs⟩
  | i + 1, h => by
    obtain ⟨h1, h2⟩ := firstMet_le i fun k hk => h k (by omega)
    rw [PyProof.Rows.firstMet_succ]
    unfold PyProof.Rows.step_dedup
    split
    · exact ⟨h1, h2⟩
    · rename_i hn
      refine ⟨?_, fun s hs => ?_⟩
      · refine List.nodup_append.mpr ⟨h1, (by simp), fun a ha b hb => ?_⟩
        rw [List.mem_singleton.mp hb]
        intro e
        subst e
        exact hn (List.any_eq_true.mpr ⟨_, ha, by simp⟩)
      · rcases List.mem_append.mp hs with h3 | h3
        · exact h2 s h3
        · rw [List.mem_singleton.mp h3]; exact h i (by omega)
theorem new_toB (K : Nat) (p : Int) : (LSt.new K p).toB = BenchM.new K p := by
  unfold LSt.toB LSt.new BenchM.new
  simp only [List.map_replicate]
  rfl
theorem new_G {N : List Int} {K : Nat} {p : Int} (hK : 2 ≤ K ∧ K ≤ 4) (hp : 1 ≤ p ∧ p ≤ 3) (hc : (N.length : Int) + 2 ≤ ((K : Int) - 1) * p) : BenchM.G N (BenchM.new K p) ∧ (BenchM.new K p).isReady = true ∧ (BenchM.new K p).total = 0 := by
  have hln : ∀ k, (BenchM.new K p).ln k = 0 := fun k => by
    unfold BenchM.ln BenchM.new
    simp only [List.getD_eq_getElem?_getD, List.getElem?_replicate]
    split <;> rfl
  have hlen : (BenchM.new K p).stacks.length = K := List.length_replicate
  have hfl : (BenchM.new K p).stacks.flatten = [] := by
    unfold BenchM.new
    simp
  have hlv : (BenchM.new K p).lives = [] := by unfold BenchM.lives; rw [hfl]; rfl
  have m0 : 0 ∈ (BenchM.new K p).emp := BenchM.mem_emp.mpr ⟨by omega, hln 0⟩
  have m1 : 1 ∈ (BenchM.new K p).emp := BenchM.mem_emp.mpr ⟨by omega, hln 1⟩
  have np : ∀ i, ¬ (BenchM.new K p).partly i = true := fun i hi => by
    have := (BenchM.partly_iff.mp hi).1
    rw [hln i] at this; omega
  refine ⟨⟨⟨hp.1, by show p ≤ 100; omega, by simp [BenchM.new], by simp [BenchM.new]; omega, fun st hst => ?_⟩, by rw [hlv]; exact List.nodup_nil, (fun s hs => by rw [hlv] at hs; cases hs), fun i j h => absurd h (np i), List.ne_nil_of_mem m0, by rw [hlen]; exact hc⟩, BenchM.ready_iff.mpr (Or.inl (BenchM.two_le m0 m1 (by decide))), by unfold BenchM.total; rw [hfl]; rfl⟩
  rw [List.eq_of_mem_replicate hst]
  show ((0 : Nat) : Int) ≤ p
  omega
theorem race_law : RaceLaw 20 := by
  intro ns
  obtain ⟨⟨d1, d2⟩, ⟨d3, d4⟩, d5, d6⟩ := Race.dims ns
  obtain ⟨u1, u2⟩ := Race.unl_at ns
  obtain ⟨m1, m2⟩ := Race.many_at ns
  have hrl := Race.row_len ns
  have hnl := Race.names_len ns
  have hK : (((Race.blocks ns).toNat : Nat) : Int) = Race.blocks ns := Int.toNat_of_nonneg (by omega)
  have hmost : Race.most ns = (Race.blocks ns - 1) * Race.pages ns := rfl
  refine ⟨⟨⟨d1, d2⟩, ⟨d3, d4⟩, d5, by rw [← hmost]; omega, fun s hs => Race.names_at ns s (Race.row_mem ns s hs), ?_⟩, ?_⟩
  · obtain ⟨f1, f2⟩ := firstMet_le (val := fun i => (Race.row ns).getD i 0) (N := Race.names ns) (Race.row ns).length fun k hk => by
      refine Race.row_mem ns _ ?_
      show (Race.row ns).getD k 0 ∈ _
      rw [List.getD_eq_getElem?_getD, List.getElem?_eq_getElem hk]
      exact List.getElem_mem hk
    have := BenchM.sub_len f1 f2
    unfold unlike
    rw [← hmost]
    omega
  · obtain ⟨g, hr, ht⟩ := new_G (N := Race.names ns) (K := (Race.blocks ns).toNat) (p := Race.pages ns) ⟨by omega, by omega⟩ ⟨d3, d4⟩ (by rw [hK, ← hmost]; omega)
    obtain ⟨⟨m, cs⟩, hle⟩ := BenchM.least_ok (n := 20) g (Race.row_mem ns) (by rw [if_pos hr]; omega)
    refine ⟨m, cs, hle, fun t => ?_⟩
    obtain ⟨m2, cs2, h1, h2⟩ := LSt.run_way (N := Race.names ns) (picks := Race.picks ns t) (most := Race.most ns) (by unfold Race.picks; simp) (row := Race.row ns) (s := .new (Race.blocks ns).toNat (Race.pages ns)) (m := 0) (cs := []) (i := 0) (by rw [new_toB]; exact g)
      ⟨fun r hr => by rw [List.eq_of_mem_replicate hr]; exact List.Pairwise.nil, fun r hr q hq => by rw [List.eq_of_mem_replicate hr] at hq; cases hq⟩ (Race.row_mem ns)
      (by rw [new_toB, show (BenchM.new (Race.blocks ns).toNat (Race.pages ns)).stacks.length = (Race.blocks ns).toNat from List.length_replicate, hK, hmost]; rfl) (by omega) (Or.inl ⟨rfl, by rw [new_toB]; exact ht⟩)
    rw [new_toB] at h2
    refine ⟨0 + m2, [] ++ cs2, h1, ?_⟩
    rw [Int.zero_add, List.nil_append]
    exact BenchM.least_le hle h2
end Wn
namespace HT
open PySem PySem.Spec PyProof.Rows L2 Wn
def top (i : Nat) : Stmt := PySem.Challenge.pw_wornpages_k73_whole_no_way_is_less.main.body.getD i (.Pass ⟨0, 0, 0, 0⟩)
abbrev st_is_whole : Stmt := top 4
def d_is_whole : He.DefD := ⟨("is_whole", none), "is_whole", "is_whole", defArgs st_is_whole, defBody st_is_whole, defScope st_is_whole, [], []⟩
abbrev st_is_within : Stmt := top 5
def d_is_within : He.DefD := ⟨("is_within", none), "is_within", "is_within", defArgs st_is_within, defBody st_is_within, defScope st_is_within, [], []⟩
abbrev st_need_sheets : Stmt := top 7
def d_need_sheets : He.DefD := ⟨("need_sheets", none), "need_sheets", "need_sheets", defArgs st_need_sheets, defBody st_need_sheets, defScope st_need_sheets, [], []⟩
abbrev st_need_race : Stmt := top 8
def d_need_race : He.DefD := ⟨("need_race", none), "need_race", "need_race", defArgs st_need_race, defBody st_need_race, defScope st_need_race, [], []⟩
abbrev st_Bench___init__ : Stmt := inClass (top 9) 0
def d_Bench___init__ : He.DefD := ⟨("Bench", some "__init__"), "__init__", "Bench.__init__", defArgs st_Bench___init__, defBody st_Bench___init__, defScope st_Bench___init__, [], []⟩
abbrev st_Bench_copied : Stmt := inClass (top 9) 1
def d_Bench_copied : He.DefD := ⟨("Bench", some "copied"), "copied", "Bench.copied", defArgs st_Bench_copied, defBody st_Bench_copied, defScope st_Bench_copied, [], []⟩
abbrev st_Bench_empty_ones : Stmt := inClass (top 9) 2
def d_Bench_empty_ones : He.DefD := ⟨("Bench", some "empty_ones"), "empty_ones", "Bench.empty_ones", defArgs st_Bench_empty_ones, defBody st_Bench_empty_ones, defScope st_Bench_empty_ones, [], []⟩
abbrev st_Bench_begun : Stmt := inClass (top 9) 3
def d_Bench_begun : He.DefD := ⟨("Bench", some "begun"), "begun", "Bench.begun", defArgs st_Bench_begun, defBody st_Bench_begun, defScope st_Bench_begun, [], []⟩
abbrev st_Bench_is_ready : Stmt := inClass (top 9) 4
def d_Bench_is_ready : He.DefD := ⟨("Bench", some "is_ready"), "is_ready", "Bench.is_ready", defArgs st_Bench_is_ready, defBody st_Bench_is_ready, defScope st_Bench_is_ready, [], []⟩
abbrev st_Bench_lay_down : Stmt := inClass (top 9) 5
def d_Bench_lay_down : He.DefD := ⟨("Bench", some "lay_down"), "lay_down", "Bench.lay_down", defArgs st_Bench_lay_down, defBody st_Bench_lay_down, defScope st_Bench_lay_down, [], []⟩
abbrev st_Bench_choices : Stmt := inClass (top 9) 6
def d_Bench_choices : He.DefD := ⟨("Bench", some "choices"), "choices", "Bench.choices", defArgs st_Bench_choices, defBody st_Bench_choices, defScope st_Bench_choices, [], []⟩
abbrev st_Bench_clear_out : Stmt := inClass (top 9) 7
def d_Bench_clear_out : He.DefD := ⟨("Bench", some "clear_out"), "clear_out", "Bench.clear_out", defArgs st_Bench_clear_out, defBody st_Bench_clear_out, defScope st_Bench_clear_out, [], []⟩
abbrev st_least_from : Stmt := top 10
def d_least_from : He.DefD := ⟨("least_from", none), "least_from", "least_from", defArgs st_least_from, defBody st_least_from, defScope st_least_from, [], []⟩
abbrev st_least_moves : Stmt := top 11
def d_least_moves : He.DefD := ⟨("least_moves", none), "least_moves", "least_moves", defArgs st_least_moves, defBody st_least_moves, defScope st_least_moves, [], []⟩
abbrev st__law_drawn : Stmt := top 13
def d__law_drawn : He.DefD := ⟨("_law_drawn", none), "_law_drawn", "_law_drawn", defArgs st__law_drawn, defBody st__law_drawn, defScope st__law_drawn, [], []⟩
abbrev st__law_race : Stmt := top 14
def d__law_race : He.DefD := ⟨("_law_race", none), "_law_race", "_law_race", defArgs st__law_race, defBody st__law_race, defScope st__law_race, [], []⟩
abbrev st__law_new : Stmt := top 15
def d__law_new : He.DefD := ⟨("_law_new", none), "_law_new", "_law_new", defArgs st__law_new, defBody st__law_new, defScope st__law_new, [], []⟩
abbrev st__law_put : Stmt := top 16
def d__law_put : He.DefD := ⟨("_law_put", none), "_law_put", "_law_put", defArgs st__law_put, defBody st__law_put, defScope st__law_put, [], []⟩
abbrev st__law_live : Stmt := top 17
def d__law_live : He.DefD := ⟨("_law_live", none), "_law_live", "_law_live", defArgs st__law_live, defBody st__law_live, defScope st__law_live, [], []⟩
abbrev st__law_short : Stmt := top 18
def d__law_short : He.DefD := ⟨("_law_short", none), "_law_short", "_law_short", defArgs st__law_short, defBody st__law_short, defScope st__law_short, [], []⟩
abbrev st__law_ways : Stmt := top 19
def d__law_ways : He.DefD := ⟨("_law_ways", none), "_law_ways", "_law_ways", defArgs st__law_ways, defBody st__law_ways, defScope st__law_ways, [], []⟩
abbrev st__law_cleared_out : Stmt := top 20
def d__law_cleared_out : He.DefD := ⟨("_law_cleared_out", none), "_law_cleared_out", "_law_cleared_out", defArgs st__law_cleared_out, defBody st__law_cleared_out, defScope st__law_cleared_out, [], []⟩
abbrev st__law_way : Stmt := top 21
def d__law_way : He.DefD := ⟨("_law_way", none), "_law_way", "_law_way", defArgs st__law_way, defBody st__law_way, defScope st__law_way, [], []⟩
abbrev st_law : Stmt := top 22
def d_law : He.DefD := ⟨("law", none), "law", "law", defArgs st_law, defBody st_law, defScope st_law, [], []⟩
def fa_0 : List He.Fa := [.glo "is_whole", .glo "is_within", .glo "need_sheets", .glo "Bench", .glo "least_from", .glo "need_race", .glo "_law_drawn", .glo "_law_live", .glo "_law_put", .glo "_law_new", .glo "_law_short", .glo "_law_ways", .glo "_law_cleared_out", .glo "_law_race", .glo "least_moves", .glo "_law_way", .glo "law", .free "isinstance", .free "int", .free "bool", .free "len", .free "set", .free "range", .free "list", .free "sorted", .free "enumerate", .cls "Bench", .noat "Bench" "pages", .noat "Bench" "stacks", .noat "Bench" "times"]
def fa_30 : List He.Fa := [.mkr "Bench", .meth "Bench" "empty_ones", .meth "Bench" "begun", .meth "Bench" "lay_down", .meth "Bench" "is_ready", .meth "Bench" "choices", .meth "Bench" "copied", .meth "Bench" "clear_out"]
def fa : List He.Fa := fa_0 ++ fa_30
def fn_0 : List He.DefD := [d_is_whole, d_is_within, d_need_sheets, d_need_race, d_Bench___init__, d_Bench_copied, d_Bench_empty_ones, d_Bench_begun, d_Bench_is_ready, d_Bench_lay_down, d_Bench_choices, d_Bench_clear_out, d_least_from, d_least_moves, d__law_drawn, d__law_race, d__law_new, d__law_put, d__law_live, d__law_short, d__law_ways, d__law_cleared_out, d__law_way, d_law]
def fn : List He.DefD := fn_0
def names_0 : List Str := ["__name__", "WornError", "NoRace", "is_whole", "is_within", "need_sheets", "need_race", "Bench", "least_from", "least_moves", "_law_drawn", "_law_race", "_law_new", "_law_put", "_law_live", "_law_short", "_law_ways", "_law_cleared_out", "_law_way"]
def names : List Str := names_0
abbrev R : PySem.W.OpenRow := PySem.W.OpenLaw.row PySem.Challenge.rw_wornpages_k73_whole_no_way_is_less
abbrev hk : PySem.W.Hook := He.hookD 5 fa fn
def ob (s : PySem.W.SharedT) : He.AlD := He.obsDG 5 fa fn (HandSHeadRun.getT s)
theorem ob_eq (s : PySem.W.SharedT) : ob s = hk.obs s.abs := He.obsDG_eq (HandSHeadRun.getT_eq s)
theorem run (w : World) : HandSHeadRun.RunEq R (PySem.W.view R.prog [22]) hk ob 20000 names w := by
  intro os
  kernel_rfl
theorem roomU {k : Nat} {A : Around} (r : Room k A) : A.units + 1 < cLine := by have := r.units; omega
theorem sp_least_from_zero {K : PySem.W.Frag} {vs : List V} {H : Hp} {Q : VK} {E : XK} : ¬ sp_least_from K 0 vs H Q E := by
  intro h
  obtain ⟨_, _, _, _, _, _, _, _, _, _, _, _, _, e, _⟩ := h.use
  cases e
section
variable {P : Program} {w : World} {K : PySem.W.Frag} {mg : Str → Option Value} {base h : Heap}
theorem tb (c : He.SaysD fa fn K) : TBench K := ⟨He.cls_ok (c.fact 26 (f := .cls "Bench") rfl), fun f hf => by
  rcases List.mem_cons.mp hf with rfl | hf
  · exact He.noat_ok (c.fact 27 (f := .noat "Bench" "pages") rfl)
  rcases List.mem_cons.mp hf with rfl | hf
  · exact He.noat_ok (c.fact 28 (f := .noat "Bench" "stacks") rfl)
  rcases List.mem_cons.mp hf with rfl | hf
  · exact He.noat_ok (c.fact 29 (f := .noat "Bench" "times") rfl)
  cases hf⟩
theorem sc_is_whole : FnScope ["thing"] ["thing"] (defScope st_is_whole) := ⟨rfl, rfl, rfl, by decide +kernel, rfl, by decide +kernel, by decide +kernel⟩
theorem ok_is_whole (X : K.In h) (G : h.Ns mainGlobals mg) (c : He.SaysD fa fn K) : ∃ fd, FnOk P w K mg base CX0 1 (He.fAd K ("is_whole", none)) fd ["thing"] (sp_is_whole K) ∧ Binds K fd ["thing"] [] ∧ PySem.W.keepIn K (.ref (He.fAd K ("is_whole", none))) = true := by
  obtain ⟨fd, F⟩ := c.def_ 0 (d := d_is_whole) rfl
  have FD : FunD K "is_whole" "is_whole" (defArgs st_is_whole) (defBody st_is_whole) (defScope st_is_whole) [] [] (He.fAd K ("is_whole", none)) fd := F
  refine ⟨fd, FD.ok (N := ["thing"]) (k := 0) sc_is_whole (fun vs H Q E h => by obtain ⟨_, _, _, hh⟩ := h.use; obtain ⟨_, e, _⟩ := hh; rw [e]; rfl) (fun cdv A outer s H vs Q E hr h => ⟨t_is_whole K, PSs.nox ?_, pure_is_whole h⟩), FD.bindsN fun _ _ _ _ _ _ us hl => match us, hl with | [_], _ => rfl, FD.kp⟩
  exact pss_one (ps_ret (pe_and (pe_callB call_isi (by rfl) ((He.free_ok X G (c.fact 17 (f := .free "isinstance") rfl))) (by decide +kernel) (pa_cons (pv 0) (pa_cons (pe_bltn (by rfl) ((He.free_ok X G (c.fact 18 (f := .free "int") rfl))) (by decide +kernel) rfl) (pa_nil)))) (pe_one (pe_not (pe_callB call_isi (by rfl) ((He.free_ok X G (c.fact 17 (f := .free "isinstance") rfl))) (by decide +kernel) (pa_cons (pv 0) (pa_cons (pe_bltn (by rfl) ((He.free_ok X G (c.fact 19 (f := .free "bool") rfl))) (by decide +kernel) rfl) (pa_nil))))))))

theorem sc_is_within : FnScope ["thing", "low", "high"] ["thing", "low", "high"] (defScope st_is_within) := ⟨rfl, rfl, rfl, by decide +kernel, rfl, by decide +kernel, by decide +kernel⟩
theorem ok_is_within (X : K.In h) (G : h.Ns mainGlobals mg) (c : He.SaysD fa fn K) : ∃ fd, FnOk P w K mg base CX0 2 (He.fAd K ("is_within", none)) fd ["thing", "low", "high"] (sp_is_within K) ∧ Binds K fd ["thing", "low", "high"] [] ∧ PySem.W.keepIn K (.ref (He.fAd K ("is_within", none))) = true := by
  obtain ⟨fd_is_whole, G_is_whole, B_is_whole, KP_is_whole⟩ := ok_is_whole (P := P) (w := w) (base := base) X G c
  obtain ⟨fd, F⟩ := c.def_ 1 (d := d_is_within) rfl
  have FD : FunD K "is_within" "is_within" (defArgs st_is_within) (defBody st_is_within) (defScope st_is_within) [] [] (He.fAd K ("is_within", none)) fd := F
  refine ⟨fd, FD.ok (N := ["thing", "low", "high"]) (k := 1) sc_is_within (fun vs H Q E h => by obtain ⟨_, _, _, hh⟩ := h.use; obtain ⟨_, _, _, e, _⟩ := hh; rw [e]; rfl) (fun cdv A outer s H vs Q E hr h => ⟨t_is_within K, PSs.nox ?_, pure_is_within h⟩), FD.bindsN fun _ _ _ _ _ _ us hl => match us, hl with | [_, _, _], _ => rfl, FD.kp⟩
  exact pss_one (ps_ret (pe_and (pe_call G_is_whole (hr.mono (by omega)) rfl ((He.glo_ok X G (c.fact 0 (f := .glo "is_whole") rfl))) KP_is_whole B_is_whole .nil pass0 (pa_cons (pv 0) (pa_nil))) (pe_one (pe_chain op_le op_le (pv 1) (pv 0) (pv 2)))))

theorem sc_need_sheets : FnScope ["row", "many", "sheet"] ["row", "many"] (defScope st_need_sheets) := ⟨rfl, rfl, rfl, by decide +kernel, rfl, by decide +kernel, by decide +kernel⟩
theorem ok_need_sheets (X : K.In h) (G : h.Ns mainGlobals mg) (c : He.SaysD fa fn K) : ∃ fd, FnOk P w K mg base CX0 3 (He.fAd K ("need_sheets", none)) fd ["row", "many"] (sp_need_sheets K) ∧ Binds K fd ["row", "many"] [] ∧ PySem.W.keepIn K (.ref (He.fAd K ("need_sheets", none))) = true := by
  obtain ⟨fd_is_within, G_is_within, B_is_within, KP_is_within⟩ := ok_is_within (P := P) (w := w) (base := base) X G c
  obtain ⟨fd, F⟩ := c.def_ 2 (d := d_need_sheets) rfl
  have FD : FunD K "need_sheets" "need_sheets" (defArgs st_need_sheets) (defBody st_need_sheets) (defScope st_need_sheets) [] [] (He.fAd K ("need_sheets", none)) fd := F
  refine ⟨fd, FD.ok (N := ["row", "many", "sheet"]) (k := 2) sc_need_sheets (fun vs H Q E h => by obtain ⟨_, _, _, hh⟩ := h.use; obtain ⟨_, _, _, e, _⟩ := hh; rw [e]; rfl) (fun cdv A outer s H vs Q E hr h => ⟨t_need_sheets K, PSs.nox ?_, pure_need_sheets h⟩), FD.bindsN fun _ _ _ _ _ _ us hl => match us, hl with | [_, _], _ => rfl, FD.kp⟩
  exact pss_cons (ps_for PassesOwn.never rfl (pi_list (pv 0)) (pg_name (i := 2) sc_need_sheets.nd rfl (Or.inl rfl)) (pss_one (ps_if (pt_not (pt_val (pe_call G_is_within (hr.mono (by omega)) rfl ((He.glo_ok X G (c.fact 1 (f := .glo "is_within") rfl))) KP_is_within B_is_within .nil pass0 (pa_cons (pv 2) (pa_cons (pe_int) (pa_cons (pe_int) (pa_nil))))))) (pss_one (ps_never)) (pss_nil)))) (pss_one (ps_if (pt_cmpR op_gt (pe_lenSetD rfl ((He.free_ok X G (c.fact 20 (f := .free "len") rfl))) rfl ((He.free_ok X G (c.fact 21 (f := .free "set") rfl))) (pv 0)) (pv 1) (nomark _)) (pss_one (ps_never)) (pss_nil)))

theorem sc_need_race : FnScope ["blocks", "pages", "row", "more", "most"] ["blocks", "pages", "row", "more"] (defScope st_need_race) := ⟨rfl, rfl, rfl, by decide +kernel, rfl, by decide +kernel, by decide +kernel⟩
theorem ok_need_race (X : K.In h) (G : h.Ns mainGlobals mg) (c : He.SaysD fa fn K) : ∃ fd, FnOk P w K mg base CX0 4 (He.fAd K ("need_race", none)) fd ["blocks", "pages", "row", "more"] (sp_need_race K) ∧ Binds K fd ["blocks", "pages", "row", "more"] [] ∧ PySem.W.keepIn K (.ref (He.fAd K ("need_race", none))) = true := by
  obtain ⟨fd_is_within, G_is_within, B_is_within, KP_is_within⟩ := ok_is_within (P := P) (w := w) (base := base) X G c
  obtain ⟨fd_need_sheets, G_need_sheets, B_need_sheets, KP_need_sheets⟩ := ok_need_sheets (P := P) (w := w) (base := base) X G c
  obtain ⟨fd, F⟩ := c.def_ 3 (d := d_need_race) rfl
  have FD : FunD K "need_race" "need_race" (defArgs st_need_race) (defBody st_need_race) (defScope st_need_race) [] [] (He.fAd K ("need_race", none)) fd := F
  refine ⟨fd, FD.ok (N := ["blocks", "pages", "row", "more", "most"]) (k := 3) sc_need_race (fun vs H Q E h => by obtain ⟨_, _, _, hh⟩ := h.use; obtain ⟨_, _, _, _, _, e, _⟩ := hh; rw [e]; rfl) (fun cdv A outer s H vs Q E hr h => ⟨t_need_race K, PSs.nox ?_, pure_need_race h⟩), FD.bindsN fun _ _ _ _ _ _ us hl => match us, hl with | [_, _, _, _], _ => rfl, FD.kp⟩
  exact pss_cons (ps_if (PW.pt (pw_or (pt_not (pt_val (pe_call G_is_within (hr.mono (by omega)) rfl ((He.glo_ok X G (c.fact 1 (f := .glo "is_within") rfl))) KP_is_within B_is_within .nil pass0 (pa_cons (pv 0) (pa_cons (pe_int) (pa_cons (pe_int) (pa_nil))))))) (pw_or1 (pt_not (pt_val (pe_call G_is_within (hr.mono (by omega)) rfl ((He.glo_ok X G (c.fact 1 (f := .glo "is_within") rfl))) KP_is_within B_is_within .nil pass0 (pa_cons (pv 1) (pa_cons (pe_int) (pa_cons (pe_int) (pa_nil)))))))))) (pss_one (ps_never)) (pss_nil)) (pss_cons (ps_set (i := 4) sc_need_race.nd rfl (Or.inl rfl) (pe_op op_mul (pe_op op_sub (pv 0) (pe_int)) (pv 1))) (pss_cons (ps_if (PW.pt (pw_or (pt_cmpR op_lt (pv 4) (pe_int) (nomark _)) (pw_or1 (pt_cmpR op_gt (pe_op op_add (pe_callB call_len (by rfl) ((He.free_ok X G (c.fact 20 (f := .free "len") rfl))) (by decide +kernel) (pa_cons (pv 2) (pa_nil))) (pv 3)) (pe_op op_add (pv 4) (pe_int)) (nomark _))))) (pss_one (ps_never)) (pss_nil)) (pss_one (ps_expr (pe_call G_need_sheets (hr.mono (by omega)) rfl ((He.glo_ok X G (c.fact 2 (f := .glo "need_sheets") rfl))) KP_need_sheets B_need_sheets .nil pass0 (pa_cons (pv 2) (pa_cons (pe_op op_sub (pv 4) (pe_int)) (pa_nil))))))))

theorem sc_Bench___init__ : FnScope ["self", "blocks", "pages", "block"] ["self", "blocks", "pages"] (defScope st_Bench___init__) := ⟨rfl, rfl, rfl, by decide +kernel, rfl, by decide +kernel, by decide +kernel⟩
theorem ok_Bench___init__ (X : K.In h) (G : h.Ns mainGlobals mg) (c : He.SaysD fa fn K) : ∃ fd, FnOk P w K mg base CX0 1 (He.fAd K ("Bench", some "__init__")) fd ["self", "blocks", "pages"] (sp_Bench___init__ K) ∧ Binds K fd ["self", "blocks", "pages"] [] ∧ PySem.W.keepIn K (.ref (He.fAd K ("Bench", some "__init__"))) = true := by
  obtain ⟨fd, F⟩ := c.def_ 4 (d := d_Bench___init__) rfl
  have FD : FunD K "__init__" "Bench.__init__" (defArgs st_Bench___init__) (defBody st_Bench___init__) (defScope st_Bench___init__) [] [] (He.fAd K ("Bench", some "__init__")) fd := F
  refine ⟨fd, FD.ok (N := ["self", "blocks", "pages", "block"]) (k := 0) sc_Bench___init__ (fun vs H Q E h => by obtain ⟨_, _, _, hh⟩ := h.use; obtain ⟨_, _, _, _, e, _⟩ := hh; rw [e]; rfl) (fun cdv A outer s H vs Q E hr h => ⟨t_Bench___init__ K, PSs.nox ?_, pure_Bench___init__ (tb c) h⟩), FD.bindsN fun _ _ _ _ _ _ us hl => match us, hl with | [_, _, _], _ => rfl, FD.kp⟩
  exact pss_cons (ps_fld (pv 0) (pv 2) rfl) (pss_cons (ps_fld (pv 0) (pe_lc (own := ([("block", 3)] : List (Str × Nat))) (g := gName 3) (tt := tYes) rfl sc_Bench___init__.nd (pi_range1 rfl ((He.free_ok X G (c.fact 22 (f := .free "range") rfl))) (pa_cons (pv 1) (pa_nil))) (blkOk_by (N := ["self", "blocks", "pages", "block"]) (sc := defScope st_Bench___init__) (by decide +kernel)) (fun _ _ _ _ _ => pg_name (i := 3) sc_Bench___init__.nd rfl (Or.inl rfl)) (fun _ _ _ _ _ => pts_nil) (fun _ _ _ _ _ => pe_lst (pa_nil))) rfl) (pss_one (ps_fld (pv 0) (pe_op op_rep (pe_lst (pa_cons (pe_int) (pa_nil))) (pv 1)) rfl)))

theorem sc_Bench_copied : FnScope ["self", "other", "stack"] ["self"] (defScope st_Bench_copied) := ⟨rfl, rfl, rfl, by decide +kernel, rfl, by decide +kernel, by decide +kernel⟩
theorem ok_Bench_copied (X : K.In h) (G : h.Ns mainGlobals mg) (c : He.SaysD fa fn K) : ∃ fd, FnOk P w K mg base CX0 3 (He.fAd K ("Bench", some "copied")) fd ["self"] (sp_Bench_copied K) ∧ Binds K fd ["self"] [] ∧ PySem.W.keepIn K (.ref (He.fAd K ("Bench", some "copied"))) = true := by
  obtain ⟨fd_Bench___init__, G_Bench___init__, B_Bench___init__, KP_Bench___init__⟩ := ok_Bench___init__ (P := P) (w := w) (base := base) X G c
  obtain ⟨fd, F⟩ := c.def_ 5 (d := d_Bench_copied) rfl
  have FD : FunD K "copied" "Bench.copied" (defArgs st_Bench_copied) (defBody st_Bench_copied) (defScope st_Bench_copied) [] [] (He.fAd K ("Bench", some "copied")) fd := F
  refine ⟨fd, FD.ok (N := ["self", "other", "stack"]) (k := 2) sc_Bench_copied (fun vs H Q E h => by obtain ⟨_, _, _, hh⟩ := h.use; obtain ⟨_, _, e, _⟩ := hh; rw [e]; rfl) (fun cdv A outer s H vs Q E hr h => ⟨t_Bench_copied K, PSs.nox ?_, pure_Bench_copied (tb c) h⟩), FD.bindsN fun _ _ _ _ _ _ us hl => match us, hl with | [_], _ => rfl, FD.kp⟩
  exact pss_cons (ps_set (i := 1) sc_Bench_copied.nd rfl (Or.inl rfl) (pe_make (He.mkr_ok (c.fact 30 (f := .mkr "Bench") rfl)) G_Bench___init__ (hr.mono (by omega)) rfl ((He.glo_ok X G (c.fact 3 (f := .glo "Bench") rfl))) B_Bench___init__ .nil pass0 (pa_cons (pe_callB call_len (by rfl) ((He.free_ok X G (c.fact 20 (f := .free "len") rfl))) (by decide +kernel) (pa_cons (pe_fld (pv 0) rfl) (pa_nil))) (pa_cons (pe_fld (pv 0) rfl) (pa_nil))))) (pss_cons (ps_fld (pv 1) (pe_lc (own := ([("stack", 2)] : List (Str × Nat))) (g := gName 2) (tt := tYes) rfl sc_Bench_copied.nd (pi_list (pe_fld (pv 0) rfl)) (blkOk_by (N := ["self", "other", "stack"]) (sc := defScope st_Bench_copied) (by decide +kernel)) (fun _ _ _ _ _ => pg_name (i := 2) sc_Bench_copied.nd rfl (Or.inl rfl)) (fun _ _ _ _ _ => pts_nil) (fun _ _ _ _ _ => pe_callTy call_list_of (by rfl) ((He.free_ok X G (c.fact 23 (f := .free "list") rfl))) (by decide +kernel) (pa_cons (pv 2) (pa_nil)))) rfl) (pss_cons (ps_fld (pv 1) (pe_callTy call_list_of (by rfl) ((He.free_ok X G (c.fact 23 (f := .free "list") rfl))) (by decide +kernel) (pa_cons (pe_fld (pv 0) rfl) (pa_nil))) rfl) (pss_one (ps_ret (pv 1)))))

theorem sc_Bench_empty_ones : FnScope ["self", "found", "times", "block", "k"] ["self"] (defScope st_Bench_empty_ones) := ⟨rfl, rfl, rfl, by decide +kernel, rfl, by decide +kernel, by decide +kernel⟩
theorem ok_Bench_empty_ones (X : K.In h) (G : h.Ns mainGlobals mg) (c : He.SaysD fa fn K) : ∃ fd, FnOk P w K mg base CX0 1 (He.fAd K ("Bench", some "empty_ones")) fd ["self"] (sp_Bench_empty_ones K) ∧ Binds K fd ["self"] [] ∧ PySem.W.keepIn K (.ref (He.fAd K ("Bench", some "empty_ones"))) = true := by
  obtain ⟨fd, F⟩ := c.def_ 6 (d := d_Bench_empty_ones) rfl
  have FD : FunD K "empty_ones" "Bench.empty_ones" (defArgs st_Bench_empty_ones) (defBody st_Bench_empty_ones) (defScope st_Bench_empty_ones) [] [] (He.fAd K ("Bench", some "empty_ones")) fd := F
  refine ⟨fd, FD.ok (N := ["self", "found", "times", "block", "k"]) (k := 0) sc_Bench_empty_ones (fun vs H Q E h => by obtain ⟨_, _, _, hh⟩ := h.use; obtain ⟨_, _, e, _⟩ := hh; rw [e]; rfl) (fun cdv A outer s H vs Q E hr h => ⟨t_Bench_empty_ones K, PSs.nox ?_, pure_Bench_empty_ones (tb c) h⟩), FD.bindsN fun _ _ _ _ _ _ us hl => match us, hl with | [_], _ => rfl, FD.kp⟩
  exact pss_cons (ps_set (i := 1) sc_Bench_empty_ones.nd rfl (Or.inl rfl) (pe_callB cr_sortedPO (by rfl) ((He.free_ok X G (c.fact 24 (f := .free "sorted") rfl))) (by decide +kernel) (pa_cons (pe_lc (own := ([("k", 4)] : List (Str × Nat))) (g := gName 4) (tt := tTest (tOp (rEqD K) (tOp (rIxL K) (tFld K (tVar 0) "stacks") (tVar 4)) (tLst (tNil)))) rfl sc_Bench_empty_ones.nd (pi_range1 rfl ((He.free_ok X G (c.fact 22 (f := .free "range") rfl))) (pa_cons (pe_callB call_len (by rfl) ((He.free_ok X G (c.fact 20 (f := .free "len") rfl))) (by decide +kernel) (pa_cons (pe_fld (pv 0) rfl) (pa_nil))) (pa_nil))) (blkOk_by (N := ["self", "found", "times", "block", "k"]) (sc := defScope st_Bench_empty_ones) (by decide +kernel)) (fun _ _ _ _ _ => pg_name (i := 4) sc_Bench_empty_ones.nd rfl (Or.inl rfl)) (fun _ _ _ _ _ => pts_one (pt_cmpR (op_eqD hr.units) (pe_ix ix_list (pe_fld (pv 0) rfl) (pv 4) (fun _ _ => rfl)) (pe_lst (pa_nil)) (nomark _))) (fun _ _ _ _ _ => pe_tup (pa_cons (pe_ix ix_list (pe_fld (pv 0) rfl) (pv 4) (fun _ _ => rfl)) (pa_cons (pv 4) (pa_nil))))) (pa_nil)))) (pss_one (ps_ret (pe_lc (own := ([("times", 2), ("block", 3)] : List (Str × Nat))) (g := gTup K 2 (gCons (gName 2) (gCons (gName 3) (gNil)))) (tt := tYes) rfl sc_Bench_empty_ones.nd (pi_list (pv 1)) (blkOk_by (N := ["self", "found", "times", "block", "k"]) (sc := defScope st_Bench_empty_ones) (by decide +kernel)) (fun _ _ _ _ _ => pg_tup rfl (pgs_cons (pg_name (i := 2) sc_Bench_empty_ones.nd rfl (Or.inl rfl)) (pgs_cons (pg_name (i := 3) sc_Bench_empty_ones.nd rfl (Or.inl rfl)) (pgs_nil)))) (fun _ _ _ _ _ => pts_nil) (fun _ _ _ _ _ => pv 3))))

theorem sc_Bench_begun : FnScope ["self", "block", "stack"] ["self"] (defScope st_Bench_begun) := ⟨rfl, rfl, rfl, by decide +kernel, rfl, by decide +kernel, by decide +kernel⟩
theorem ok_Bench_begun (X : K.In h) (G : h.Ns mainGlobals mg) (c : He.SaysD fa fn K) : ∃ fd, FnOk P w K mg base CX0 1 (He.fAd K ("Bench", some "begun")) fd ["self"] (sp_Bench_begun K) ∧ Binds K fd ["self"] [] ∧ PySem.W.keepIn K (.ref (He.fAd K ("Bench", some "begun"))) = true := by
  obtain ⟨fd, F⟩ := c.def_ 7 (d := d_Bench_begun) rfl
  have FD : FunD K "begun" "Bench.begun" (defArgs st_Bench_begun) (defBody st_Bench_begun) (defScope st_Bench_begun) [] [] (He.fAd K ("Bench", some "begun")) fd := F
  refine ⟨fd, FD.ok (N := ["self", "block", "stack"]) (k := 0) sc_Bench_begun (fun vs H Q E h => by obtain ⟨_, _, _, hh⟩ := h.use; obtain ⟨_, _, e, _⟩ := hh; rw [e]; rfl) (fun cdv A outer s H vs Q E hr h => ⟨t_Bench_begun K, PSs.nox ?_, pure_Bench_begun (tb c) h⟩), FD.bindsN fun _ _ _ _ _ _ us hl => match us, hl with | [_], _ => rfl, FD.kp⟩
  exact pss_cons (ps_for PassesOwn.never rfl (pi_enum rfl ((He.free_ok X G (c.fact 25 (f := .free "enumerate") rfl))) (pa_cons (pe_fld (pv 0) rfl) (pa_nil))) (pg_tup rfl (pgs_cons (pg_name (i := 1) sc_Bench_begun.nd rfl (Or.inl rfl)) (pgs_cons (pg_name (i := 2) sc_Bench_begun.nd rfl (Or.inl rfl)) (pgs_nil)))) (pss_one (ps_if (pt_chain op_lt op_lt (pe_int) (pe_callB call_len (by rfl) ((He.free_ok X G (c.fact 20 (f := .free "len") rfl))) (by decide +kernel) (pa_cons (pv 2) (pa_nil))) (pe_fld (pv 0) rfl)) (pss_one (ps_ret (pv 1))) (pss_nil)))) (pss_one (ps_ret (pe_non)))

theorem sc_Bench_is_ready : FnScope ["self", "free"] ["self"] (defScope st_Bench_is_ready) := ⟨rfl, rfl, rfl, by decide +kernel, rfl, by decide +kernel, by decide +kernel⟩
theorem ok_Bench_is_ready (X : K.In h) (G : h.Ns mainGlobals mg) (c : He.SaysD fa fn K) : ∃ fd, FnOk P w K mg base CX0 2 (He.fAd K ("Bench", some "is_ready")) fd ["self"] (sp_Bench_is_ready K) ∧ Binds K fd ["self"] [] ∧ PySem.W.keepIn K (.ref (He.fAd K ("Bench", some "is_ready"))) = true := by
  obtain ⟨fd_Bench_empty_ones, G_Bench_empty_ones, B_Bench_empty_ones, KP_Bench_empty_ones⟩ := ok_Bench_empty_ones (P := P) (w := w) (base := base) X G c
  obtain ⟨fd_Bench_begun, G_Bench_begun, B_Bench_begun, KP_Bench_begun⟩ := ok_Bench_begun (P := P) (w := w) (base := base) X G c
  obtain ⟨fd, F⟩ := c.def_ 8 (d := d_Bench_is_ready) rfl
  have FD : FunD K "is_ready" "Bench.is_ready" (defArgs st_Bench_is_ready) (defBody st_Bench_is_ready) (defScope st_Bench_is_ready) [] [] (He.fAd K ("Bench", some "is_ready")) fd := F
  refine ⟨fd, FD.ok (N := ["self", "free"]) (k := 1) sc_Bench_is_ready (fun vs H Q E h => by obtain ⟨_, _, _, hh⟩ := h.use; obtain ⟨_, _, e, _⟩ := hh; rw [e]; rfl) (fun cdv A outer s H vs Q E hr h => ⟨t_Bench_is_ready K, PSs.nox ?_, pure_Bench_is_ready (tb c) h⟩), FD.bindsN fun _ _ _ _ _ _ us hl => match us, hl with | [_], _ => rfl, FD.kp⟩
  exact pss_cons (ps_set (i := 1) sc_Bench_is_ready.nd rfl (Or.inl rfl) (pe_callB call_len (by rfl) ((He.free_ok X G (c.fact 20 (f := .free "len") rfl))) (by decide +kernel) (pa_cons (pe_meth0 (pv 0) (He.cls_ok (c.fact 26 (f := .cls "Bench") rfl)) (He.meth_ok (c.fact 31 (f := .meth "Bench" "empty_ones") rfl)) G_Bench_empty_ones (hr.mono (by omega)) B_Bench_empty_ones .nil pass0) (pa_nil)))) (pss_one (ps_ret (pe_or (pe_cmpR op_gt (pv 1) (pe_int) (nomark _)) (pe_one (pe_and (pe_cmpR op_eq (pv 1) (pe_int) (nomark _)) (pe_one (pe_cmpR op_notN (pe_meth0 (pv 0) (He.cls_ok (c.fact 26 (f := .cls "Bench") rfl)) (He.meth_ok (c.fact 32 (f := .meth "Bench" "begun") rfl)) G_Bench_begun (hr.mono (by omega)) B_Bench_begun .nil pass0) (pe_non) (nomark _))))))))

theorem sc_Bench_lay_down : FnScope ["self", "sheet", "stack", "block"] ["self", "sheet"] (defScope st_Bench_lay_down) := ⟨rfl, rfl, rfl, by decide +kernel, rfl, by decide +kernel, by decide +kernel⟩
theorem ok_Bench_lay_down (X : K.In h) (G : h.Ns mainGlobals mg) (c : He.SaysD fa fn K) : ∃ fd, FnOk P w K mg base CX0 2 (He.fAd K ("Bench", some "lay_down")) fd ["self", "sheet"] (sp_Bench_lay_down K) ∧ Binds K fd ["self", "sheet"] [] ∧ PySem.W.keepIn K (.ref (He.fAd K ("Bench", some "lay_down"))) = true := by
  obtain ⟨fd_Bench_begun, G_Bench_begun, B_Bench_begun, KP_Bench_begun⟩ := ok_Bench_begun (P := P) (w := w) (base := base) X G c
  obtain ⟨fd_Bench_empty_ones, G_Bench_empty_ones, B_Bench_empty_ones, KP_Bench_empty_ones⟩ := ok_Bench_empty_ones (P := P) (w := w) (base := base) X G c
  obtain ⟨fd, F⟩ := c.def_ 9 (d := d_Bench_lay_down) rfl
  have FD : FunD K "lay_down" "Bench.lay_down" (defArgs st_Bench_lay_down) (defBody st_Bench_lay_down) (defScope st_Bench_lay_down) [] [] (He.fAd K ("Bench", some "lay_down")) fd := F
  refine ⟨fd, FD.ok (N := ["self", "sheet", "stack", "block"]) (k := 1) sc_Bench_lay_down (fun vs H Q E h => by obtain ⟨_, _, _, hh⟩ := h.use; obtain ⟨_, _, _, _, e, _⟩ := hh; rw [e]; rfl) (fun cdv A outer s H vs Q E hr h => ⟨t_Bench_lay_down K, PSs.nox ?_, pure_Bench_lay_down (tb c) h⟩), FD.bindsN fun _ _ _ _ _ _ us hl => match us, hl with | [_, _], _ => rfl, FD.kp⟩
  exact pss_cons (ps_for PassesOwn.never rfl (pi_list (pe_fld (pv 0) rfl)) (pg_name (i := 2) sc_Bench_lay_down.nd rfl (Or.inl rfl)) (pss_one (ps_if (pt_cmpR op_in_seq (pv 1) (pv 2) (by with_unfolding_all rfl)) (pss_one (ps_asg (pe_non) (pg_sub (pv 2) (pe_bm PySem.F.plainAttrs_list PySem.F.slot_list_index PySem.F.type_list_index mt_index (pv 2) (pa_cons (pv 1) (pa_nil))) set_list))) (pss_nil)))) (pss_cons (ps_set (i := 3) sc_Bench_lay_down.nd rfl (Or.inl rfl) (pe_meth0 (pv 0) (He.cls_ok (c.fact 26 (f := .cls "Bench") rfl)) (He.meth_ok (c.fact 32 (f := .meth "Bench" "begun") rfl)) G_Bench_begun (hr.mono (by omega)) B_Bench_begun .nil pass0)) (pss_cons (ps_if (pt_cmpR op_isN (pv 3) (pe_non) (nomark _)) (pss_one (ps_set (i := 3) sc_Bench_lay_down.nd rfl (Or.inl rfl) (pe_ix ix_list (pe_meth0 (pv 0) (He.cls_ok (c.fact 26 (f := .cls "Bench") rfl)) (He.meth_ok (c.fact 31 (f := .meth "Bench" "empty_ones") rfl)) G_Bench_empty_ones (hr.mono (by omega)) B_Bench_empty_ones .nil pass0) (pe_int) (fun _ _ => rfl)))) (pss_nil)) (pss_one (ps_expr (pe_bm PySem.F.plainAttrs_list PySem.F.slot_list_append PySem.F.type_list_append mt_append (pe_ix ix_list (pe_fld (pv 0) rfl) (pv 3) (fun _ _ => rfl)) (pa_cons (pv 1) (pa_nil)))))))

theorem sc_Bench_choices : FnScope ["self", "k"] ["self"] (defScope st_Bench_choices) := ⟨rfl, rfl, rfl, by decide +kernel, rfl, by decide +kernel, by decide +kernel⟩
theorem ok_Bench_choices (X : K.In h) (G : h.Ns mainGlobals mg) (c : He.SaysD fa fn K) : ∃ fd, FnOk P w K mg base CX0 1 (He.fAd K ("Bench", some "choices")) fd ["self"] (sp_Bench_choices K) ∧ Binds K fd ["self"] [] ∧ PySem.W.keepIn K (.ref (He.fAd K ("Bench", some "choices"))) = true := by
  obtain ⟨fd, F⟩ := c.def_ 10 (d := d_Bench_choices) rfl
  have FD : FunD K "choices" "Bench.choices" (defArgs st_Bench_choices) (defBody st_Bench_choices) (defScope st_Bench_choices) [] [] (He.fAd K ("Bench", some "choices")) fd := F
  refine ⟨fd, FD.ok (N := ["self", "k"]) (k := 0) sc_Bench_choices (fun vs H Q E h => by obtain ⟨_, _, _, hh⟩ := h.use; obtain ⟨_, _, e, _⟩ := hh; rw [e]; rfl) (fun cdv A outer s H vs Q E hr h => ⟨t_Bench_choices K, PSs.nox ?_, pure_Bench_choices (tb c) h⟩), FD.bindsN fun _ _ _ _ _ _ us hl => match us, hl with | [_], _ => rfl, FD.kp⟩
  exact pss_one (ps_ret (pe_lc (own := ([("k", 1)] : List (Str × Nat))) (g := gName 1) (tt := tAnd (tTest (tOp rEq (tCB (rLenV K) (tCons (tOp (rIxL K) (tFld K (tVar 0) "stacks") (tVar 1)) (tNil))) (tFld K (tVar 0) "pages"))) (tTest (tOp (rIn K false) (tC .non) (tOp (rIxL K) (tFld K (tVar 0) "stacks") (tVar 1))))) rfl sc_Bench_choices.nd (pi_range1 rfl ((He.free_ok X G (c.fact 22 (f := .free "range") rfl))) (pa_cons (pe_callB call_len (by rfl) ((He.free_ok X G (c.fact 20 (f := .free "len") rfl))) (by decide +kernel) (pa_cons (pe_fld (pv 0) rfl) (pa_nil))) (pa_nil))) (blkOk_by (N := ["self", "k"]) (sc := defScope st_Bench_choices) (by decide +kernel)) (fun _ _ _ _ _ => pg_name (i := 1) sc_Bench_choices.nd rfl (Or.inl rfl)) (fun _ _ _ _ _ => pts_one (PW.pt (pw_and (pt_cmpR op_eq (pe_callB call_len (by rfl) ((He.free_ok X G (c.fact 20 (f := .free "len") rfl))) (by decide +kernel) (pa_cons (pe_ix ix_list (pe_fld (pv 0) rfl) (pv 1) (fun _ _ => rfl)) (pa_nil))) (pe_fld (pv 0) rfl) (nomark _)) (pw_and1 (pt_cmpR op_in_seq (pe_non) (pe_ix ix_list (pe_fld (pv 0) rfl) (pv 1) (fun _ _ => rfl)) (by with_unfolding_all rfl)))))) (fun _ _ _ _ _ => pv 1)))

theorem sc_Bench_clear_out : FnScope ["self", "block", "moved", "sheet"] ["self", "block"] (defScope st_Bench_clear_out) := ⟨rfl, rfl, rfl, by decide +kernel, rfl, by decide +kernel, by decide +kernel⟩
theorem ok_Bench_clear_out (X : K.In h) (G : h.Ns mainGlobals mg) (c : He.SaysD fa fn K) : ∃ fd, FnOk P w K mg base CX0 3 (He.fAd K ("Bench", some "clear_out")) fd ["self", "block"] (sp_Bench_clear_out K) ∧ Binds K fd ["self", "block"] [] ∧ PySem.W.keepIn K (.ref (He.fAd K ("Bench", some "clear_out"))) = true := by
  obtain ⟨fd_Bench_lay_down, G_Bench_lay_down, B_Bench_lay_down, KP_Bench_lay_down⟩ := ok_Bench_lay_down (P := P) (w := w) (base := base) X G c
  obtain ⟨fd, F⟩ := c.def_ 11 (d := d_Bench_clear_out) rfl
  have FD : FunD K "clear_out" "Bench.clear_out" (defArgs st_Bench_clear_out) (defBody st_Bench_clear_out) (defScope st_Bench_clear_out) [] [] (He.fAd K ("Bench", some "clear_out")) fd := F
  refine ⟨fd, FD.ok (N := ["self", "block", "moved", "sheet"]) (k := 2) sc_Bench_clear_out (fun vs H Q E h => by obtain ⟨_, _, _, hh⟩ := h.use; obtain ⟨_, _, _, _, e, _⟩ := hh; rw [e]; rfl) (fun cdv A outer s H vs Q E hr h => ⟨t_Bench_clear_out K, PSs.nox ?_, pure_Bench_clear_out (tb c) h⟩), FD.bindsN fun _ _ _ _ _ _ us hl => match us, hl with | [_, _], _ => rfl, FD.kp⟩
  exact pss_cons (ps_setLc (i := 2) (own := ([("sheet", 3)] : List (Str × Nat))) (g := gName 3) (tt := tTest (tOp rNotN (tVar 3) (tC .non))) rfl sc_Bench_clear_out.nd rfl rfl (sw_true rfl rfl rfl (by decide +kernel)) (pi_list (pe_ix ix_list (pe_fld (pv 0) rfl) (pv 1) (fun _ _ => rfl))) (blkOk_by (N := ["self", "block", "moved", "sheet"]) (sc := defScope st_Bench_clear_out) (by decide +kernel)) (fun _ _ _ _ _ => pg_name (i := 3) sc_Bench_clear_out.nd rfl (Or.inl rfl)) (fun _ _ _ _ _ => pts_one (pt_cmpR op_notN (pv 3) (pe_non) (nomark _))) (fun _ _ _ _ _ => pv 3)) (pss_cons (ps_for PassesOwn.never rfl (pi_list (pv 2)) (pg_name (i := 3) sc_Bench_clear_out.nd rfl (Or.inl rfl)) (pss_one (ps_expr (pe_meth (pv 0) (He.cls_ok (c.fact 26 (f := .cls "Bench") rfl)) (He.meth_ok (c.fact 33 (f := .meth "Bench" "lay_down") rfl)) G_Bench_lay_down (hr.mono (by omega)) B_Bench_lay_down .nil pass0 (pa_cons (pv 3) (pa_nil)))))) (pss_cons (ps_asg (pe_lst (pa_nil)) (pg_sub (pe_fld (pv 0) rfl) (pv 1) set_list)) (pss_cons (ps_augS (pe_fld (pv 0) rfl) (pv 1) get_list (pe_int) ip_add set_list) (pss_one (ps_ret (pe_callB call_len (by rfl) ((He.free_ok X G (c.fact 20 (f := .free "len") rfl))) (by decide +kernel) (pa_cons (pv 2) (pa_nil))))))))

theorem sc_least_from : FnScope ["bench", "row", "at", "best", "block", "other", "moves", "rest"] ["bench", "row"] (defScope st_least_from) := ⟨rfl, rfl, rfl, by decide +kernel, rfl, by decide +kernel, by decide +kernel⟩
theorem ok_least_from (X : K.In h) (G : h.Ns mainGlobals mg) (c : He.SaysD fa fn K) : ∃ fd, (∀ n ≤ 20, FnOk P w K mg base CX0 (4 + n) (He.fAd K ("least_from", none)) fd ["bench", "row"] (sp_least_from K n)) ∧ Binds K fd ["bench", "row"] [] ∧ PySem.W.keepIn K (.ref (He.fAd K ("least_from", none))) = true := by
  obtain ⟨fd_Bench_is_ready, G_Bench_is_ready, B_Bench_is_ready, KP_Bench_is_ready⟩ := ok_Bench_is_ready (P := P) (w := w) (base := base) X G c
  obtain ⟨fd_Bench_lay_down, G_Bench_lay_down, B_Bench_lay_down, KP_Bench_lay_down⟩ := ok_Bench_lay_down (P := P) (w := w) (base := base) X G c
  obtain ⟨fd_Bench_choices, G_Bench_choices, B_Bench_choices, KP_Bench_choices⟩ := ok_Bench_choices (P := P) (w := w) (base := base) X G c
  obtain ⟨fd_Bench_copied, G_Bench_copied, B_Bench_copied, KP_Bench_copied⟩ := ok_Bench_copied (P := P) (w := w) (base := base) X G c
  obtain ⟨fd_Bench_clear_out, G_Bench_clear_out, B_Bench_clear_out, KP_Bench_clear_out⟩ := ok_Bench_clear_out (P := P) (w := w) (base := base) X G c
  obtain ⟨fd, F⟩ := c.def_ 12 (d := d_least_from) rfl
  have FD : FunD K "least_from" "least_from" (defArgs st_least_from) (defBody st_least_from) (defScope st_least_from) [] [] (He.fAd K ("least_from", none)) fd := F
  have B_least_from : Binds K fd ["bench", "row"] [] := FD.bindsN fun _ _ _ _ _ _ us hl => match us, hl with | [_, _], _ => rfl
  have KP_least_from := FD.kp
  refine ⟨fd, fun n => ?_, B_least_from, FD.kp⟩
  induction n with
  | zero => exact fun _ => FD.ok (N := ["bench", "row", "at", "best", "block", "other", "moves", "rest"]) sc_least_from (fun vs H Q E h => by obtain ⟨_, _, _, hh⟩ := h.use; obtain ⟨_, _, _, _, _, _, e, _⟩ := hh; rw [e]; rfl) (fun cdv A outer s H vs Q E hr h => absurd h (sp_least_from_zero))
  | succ n ih =>
    intro hn
    have G_least_from := ih (by omega)
    refine FD.ok (N := ["bench", "row", "at", "best", "block", "other", "moves", "rest"]) (k := 4 + n) sc_least_from (fun vs H Q E h => by obtain ⟨_, _, _, hh⟩ := h.use; obtain ⟨_, _, _, _, _, _, e, _⟩ := hh; rw [e]; rfl) (fun cdv A outer s H vs Q E hr h => ⟨t_least_from K n, PSs.nox ?_, pure_least_from (by omega) (tb c) h⟩)
    exact pss_cons (ps_set (i := 2) sc_least_from.nd rfl (Or.inl rfl) (pe_int)) (pss_cons (ps_while PassesOwn.never (PW.pt (pw_and (pt_cmpR op_lt (pv 2) (pe_callB call_len (by rfl) ((He.free_ok X G (c.fact 20 (f := .free "len") rfl))) (by decide +kernel) (pa_cons (pv 1) (pa_nil))) (nomark _)) (pw_and1 (pt_val (pe_meth0 (pv 0) (He.cls_ok (c.fact 26 (f := .cls "Bench") rfl)) (He.meth_ok (c.fact 34 (f := .meth "Bench" "is_ready") rfl)) G_Bench_is_ready (hr.mono (by omega)) B_Bench_is_ready .nil pass0))))) (pss_cons (ps_expr (pe_meth (pv 0) (He.cls_ok (c.fact 26 (f := .cls "Bench") rfl)) (He.meth_ok (c.fact 33 (f := .meth "Bench" "lay_down") rfl)) G_Bench_lay_down (hr.mono (by omega)) B_Bench_lay_down .nil pass0 (pa_cons (pe_ix ix_list (pv 1) (pv 2) (fun _ _ => rfl)) (pa_nil)))) (pss_one (ps_aug (i := 2) sc_least_from.nd rfl (Or.inl rfl) (pe_int) ip_add)))) (pss_cons (ps_if (pt_cmpR op_eq (pv 2) (pe_callB call_len (by rfl) ((He.free_ok X G (c.fact 20 (f := .free "len") rfl))) (by decide +kernel) (pa_cons (pv 1) (pa_nil))) (nomark _)) (pss_one (ps_ret (pe_tup (pa_cons (pe_int) (pa_cons (pe_lst (pa_nil)) (pa_nil)))))) (pss_nil)) (pss_cons (ps_set (i := 3) sc_least_from.nd rfl (Or.inl rfl) (pe_non)) (pss_cons (ps_for PassesOwn.never rfl (pi_list (pe_meth0 (pv 0) (He.cls_ok (c.fact 26 (f := .cls "Bench") rfl)) (He.meth_ok (c.fact 35 (f := .meth "Bench" "choices") rfl)) G_Bench_choices (hr.mono (by omega)) B_Bench_choices .nil pass0)) (pg_name (i := 4) sc_least_from.nd rfl (Or.inl rfl)) (pss_cons (ps_set (i := 5) sc_least_from.nd rfl (Or.inl rfl) (pe_meth0 (pv 0) (He.cls_ok (c.fact 26 (f := .cls "Bench") rfl)) (He.meth_ok (c.fact 36 (f := .meth "Bench" "copied") rfl)) G_Bench_copied (hr.mono (by omega)) B_Bench_copied .nil pass0)) (pss_cons (ps_set (i := 6) sc_least_from.nd rfl (Or.inl rfl) (pe_meth (pv 5) (He.cls_ok (c.fact 26 (f := .cls "Bench") rfl)) (He.meth_ok (c.fact 37 (f := .meth "Bench" "clear_out") rfl)) G_Bench_clear_out (hr.mono (by omega)) B_Bench_clear_out .nil pass0 (pa_cons (pv 4) (pa_nil)))) (pss_cons (ps_set (i := 7) sc_least_from.nd rfl (Or.inl rfl) (pe_call G_least_from hr rfl ((He.glo_ok X G (c.fact 4 (f := .glo "least_from") rfl))) KP_least_from B_least_from .nil pass0 (pa_cons (pv 5) (pa_cons (pe_slice sl_list (pv 1) (po_some (pv 2)) (po_none)) (pa_nil))))) (pss_one (ps_if (PW.pt (pw_or (pt_cmpR op_isN (pv 3) (pe_non) (nomark _)) (pw_or1 (pt_cmpR op_lt (pe_op op_add (pv 6) (pe_ix ix_tup (pv 7) (pe_int) (fun _ _ => rfl))) (pe_ix ix_tup (pv 3) (pe_int) (fun _ _ => rfl)) (nomark _))))) (pss_one (ps_set (i := 3) sc_least_from.nd rfl (Or.inl rfl) (pe_tup (pa_cons (pe_op op_add (pv 6) (pe_ix ix_tup (pv 7) (pe_int) (fun _ _ => rfl))) (pa_cons (pe_op op_cat (pe_lst (pa_cons (pv 4) (pa_nil))) (pe_ix ix_tup (pv 7) (pe_int) (fun _ _ => rfl))) (pa_nil)))))) (pss_nil))))))) (pss_one (ps_ret (pv 3)))))))

theorem sc_least_moves : FnScope ["blocks", "pages", "row"] ["blocks", "pages", "row"] (defScope st_least_moves) := ⟨rfl, rfl, rfl, by decide +kernel, rfl, by decide +kernel, by decide +kernel⟩
theorem ok_least_moves {N : Nat} (hN : N ≤ 20) (X : K.In h) (G : h.Ns mainGlobals mg) (c : He.SaysD fa fn K) : ∃ fd, FnOk P w K mg base CX0 25 (He.fAd K ("least_moves", none)) fd ["blocks", "pages", "row"] (sp_least_moves K N) ∧ Binds K fd ["blocks", "pages", "row"] [] ∧ PySem.W.keepIn K (.ref (He.fAd K ("least_moves", none))) = true := by
  obtain ⟨fd_need_race, G_need_race, B_need_race, KP_need_race⟩ := ok_need_race (P := P) (w := w) (base := base) X G c
  obtain ⟨fd_least_from, G0_least_from, B_least_from, KP_least_from⟩ := ok_least_from (P := P) (w := w) (base := base) X G c
  have G_least_from := G0_least_from N hN
  obtain ⟨fd_Bench___init__, G_Bench___init__, B_Bench___init__, KP_Bench___init__⟩ := ok_Bench___init__ (P := P) (w := w) (base := base) X G c
  obtain ⟨fd, F⟩ := c.def_ 13 (d := d_least_moves) rfl
  have FD : FunD K "least_moves" "least_moves" (defArgs st_least_moves) (defBody st_least_moves) (defScope st_least_moves) [] [] (He.fAd K ("least_moves", none)) fd := F
  refine ⟨fd, FD.ok (N := ["blocks", "pages", "row"]) (k := 24) sc_least_moves (fun vs H Q E h => by obtain ⟨_, _, _, hh⟩ := h.use; obtain ⟨_, _, _, _, _, _, e, _⟩ := hh; rw [e]; rfl) (fun cdv A outer s H vs Q E hr h => ⟨t_least_moves K N, PSs.nox ?_, pure_least_moves (tb c) h⟩), FD.bindsN fun _ _ _ _ _ _ us hl => match us, hl with | [_, _, _], _ => rfl, FD.kp⟩
  exact pss_cons (ps_expr (pe_call G_need_race (hr.mono (by omega)) rfl ((He.glo_ok X G (c.fact 5 (f := .glo "need_race") rfl))) KP_need_race B_need_race .nil pass0 (pa_cons (pv 0) (pa_cons (pv 1) (pa_cons (pv 2) (pa_cons (pe_int) (pa_nil))))))) (pss_one (ps_ret (pe_call G_least_from (hr.mono (by omega)) rfl ((He.glo_ok X G (c.fact 4 (f := .glo "least_from") rfl))) KP_least_from B_least_from .nil pass0 (pa_cons (pe_make (He.mkr_ok (c.fact 30 (f := .mkr "Bench") rfl)) G_Bench___init__ (hr.mono (by omega)) rfl ((He.glo_ok X G (c.fact 3 (f := .glo "Bench") rfl))) B_Bench___init__ .nil pass0 (pa_cons (pv 0) (pa_cons (pv 1) (pa_nil)))) (pa_cons (pv 2) (pa_nil))))))

theorem sc__law_drawn : FnScope ["_law_script", "_law_k", "_law_number"] ["_law_script", "_law_k"] (defScope st__law_drawn) := ⟨rfl, rfl, rfl, by decide +kernel, rfl, by decide +kernel, by decide +kernel⟩
theorem ok__law_drawn (X : K.In h) (G : h.Ns mainGlobals mg) (c : He.SaysD fa fn K) : ∃ fd, FnOk P w K mg base CX0 1 (He.fAd K ("_law_drawn", none)) fd ["_law_script", "_law_k"] (sp__law_drawn K) ∧ Binds K fd ["_law_script", "_law_k"] [] ∧ PySem.W.keepIn K (.ref (He.fAd K ("_law_drawn", none))) = true := by
  obtain ⟨fd, F⟩ := c.def_ 14 (d := d__law_drawn) rfl
  have FD : FunD K "_law_drawn" "_law_drawn" (defArgs st__law_drawn) (defBody st__law_drawn) (defScope st__law_drawn) [] [] (He.fAd K ("_law_drawn", none)) fd := F
  refine ⟨fd, FD.ok (N := ["_law_script", "_law_k", "_law_number"]) (k := 0) sc__law_drawn (fun vs H Q E h => by obtain ⟨_, _, _, hh⟩ := h.use; obtain ⟨_, _, _, e, _⟩ := hh; rw [e]; rfl) (fun cdv A outer s H vs Q E hr h => ⟨t__law_drawn K, PSs.nox ?_, pure__law_drawn h⟩), FD.bindsN fun _ _ _ _ _ _ us hl => match us, hl with | [_, _], _ => rfl, FD.kp⟩
  exact pss_cons (ps_if (pt_cmpR op_lt (pv 1) (pe_callB call_len (by rfl) ((He.free_ok X G (c.fact 20 (f := .free "len") rfl))) (by decide +kernel) (pa_cons (pv 0) (pa_nil))) (nomark _)) (pss_one (ps_ret (pe_ix ix_list (pv 0) (pv 1) (fun _ _ => rfl)))) (pss_nil)) (pss_cons (ps_set (i := 2) sc__law_drawn.nd rfl (Or.inl rfl) (pe_op op_add (pe_op op_mul (pe_int) (pv 1)) (pe_int))) (pss_cons (ps_if (pt_cmpR op_gt (pe_callB call_len (by rfl) ((He.free_ok X G (c.fact 20 (f := .free "len") rfl))) (by decide +kernel) (pa_cons (pv 0) (pa_nil))) (pe_int) (nomark _)) (pss_one (ps_set (i := 2) sc__law_drawn.nd rfl (Or.inl rfl) (pe_op op_mod (pe_op op_add (pe_op op_mul (pe_ix ix_list (pv 0) (pe_op op_mod (pe_op op_mul (pv 1) (pe_int)) (pe_callB call_len (by rfl) ((He.free_ok X G (c.fact 20 (f := .free "len") rfl))) (by decide +kernel) (pa_cons (pv 0) (pa_nil)))) (fun _ _ => rfl)) (pe_int)) (pv 2)) (pe_int)))) (pss_nil)) (pss_one (ps_ret (pe_op op_mod (pe_op op_mul (pv 2) (pv 2)) (pe_int))))))

theorem sc__law_race : FnScope ["_law_script", "_law_blocks", "_law_pages", "_law_most", "_law_step", "_law_unlike", "_law_names", "_law_many", "_law_k"] ["_law_script"] (defScope st__law_race) := ⟨rfl, rfl, rfl, by decide +kernel, rfl, by decide +kernel, by decide +kernel⟩
theorem ok__law_race (X : K.In h) (G : h.Ns mainGlobals mg) (c : He.SaysD fa fn K) : ∃ fd, FnOk P w K mg base CX0 2 (He.fAd K ("_law_race", none)) fd ["_law_script"] (sp__law_race K) ∧ Binds K fd ["_law_script"] [] ∧ PySem.W.keepIn K (.ref (He.fAd K ("_law_race", none))) = true := by
  obtain ⟨fd__law_drawn, G__law_drawn, B__law_drawn, KP__law_drawn⟩ := ok__law_drawn (P := P) (w := w) (base := base) X G c
  obtain ⟨fd, F⟩ := c.def_ 15 (d := d__law_race) rfl
  have FD : FunD K "_law_race" "_law_race" (defArgs st__law_race) (defBody st__law_race) (defScope st__law_race) [] [] (He.fAd K ("_law_race", none)) fd := F
  refine ⟨fd, FD.ok (N := ["_law_script", "_law_blocks", "_law_pages", "_law_most", "_law_step", "_law_unlike", "_law_names", "_law_many", "_law_k"]) (k := 1) sc__law_race (fun vs H Q E h => by obtain ⟨_, _, _, hh⟩ := h.use; obtain ⟨_, _, e, _⟩ := hh; rw [e]; rfl) (fun cdv A outer s H vs Q E hr h => ⟨t__law_race K, PSs.nox ?_, pure__law_race h⟩), FD.bindsN fun _ _ _ _ _ _ us hl => match us, hl with | [_], _ => rfl, FD.kp⟩
  exact pss_cons (ps_set (i := 1) sc__law_race.nd rfl (Or.inl rfl) (pe_op op_add (pe_int) (pe_op op_mod (pe_call G__law_drawn (hr.mono (by omega)) rfl ((He.glo_ok X G (c.fact 6 (f := .glo "_law_drawn") rfl))) KP__law_drawn B__law_drawn .nil pass0 (pa_cons (pv 0) (pa_cons (pe_int) (pa_nil)))) (pe_int)))) (pss_cons (ps_set (i := 2) sc__law_race.nd rfl (Or.inl rfl) (pe_op op_add (pe_int) (pe_op op_mod (pe_call G__law_drawn (hr.mono (by omega)) rfl ((He.glo_ok X G (c.fact 6 (f := .glo "_law_drawn") rfl))) KP__law_drawn B__law_drawn .nil pass0 (pa_cons (pv 0) (pa_cons (pe_int) (pa_nil)))) (pe_int)))) (pss_cons (ps_if (pt_cmpR op_lt (pe_op op_mul (pe_op op_sub (pv 1) (pe_int)) (pv 2)) (pe_int) (nomark _)) (pss_cons (ps_set (i := 1) sc__law_race.nd rfl (Or.inl rfl) (pe_int)) (pss_one (ps_set (i := 2) sc__law_race.nd rfl (Or.inl rfl) (pe_int)))) (pss_nil)) (pss_cons (ps_set (i := 3) sc__law_race.nd rfl (Or.inl rfl) (pe_op op_mul (pe_op op_sub (pv 1) (pe_int)) (pv 2))) (pss_cons (ps_set (i := 4) sc__law_race.nd rfl (Or.inr rfl) (pe_op op_add (pe_int) (pe_op op_mul (pe_int) (pe_op op_mod (pe_call G__law_drawn (hr.mono (by omega)) rfl ((He.glo_ok X G (c.fact 6 (f := .glo "_law_drawn") rfl))) KP__law_drawn B__law_drawn .nil pass0 (pa_cons (pv 0) (pa_cons (pe_int) (pa_nil)))) (pe_int))))) (pss_cons (ps_set (i := 5) sc__law_race.nd rfl (Or.inr rfl) (pe_op op_add (pe_int) (pe_op op_mod (pe_call G__law_drawn (hr.mono (by omega)) rfl ((He.glo_ok X G (c.fact 6 (f := .glo "_law_drawn") rfl))) KP__law_drawn B__law_drawn .nil pass0 (pa_cons (pv 0) (pa_cons (pe_int) (pa_nil)))) (pe_op op_sub (pv 3) (pe_int))))) (pss_cons (ps_set (i := 6) sc__law_race.nd rfl (Or.inr rfl) (pe_lc (own := ([("_law_k", 8)] : List (Str × Nat))) (g := gName 8) (tt := tYes) rfl sc__law_race.nd (pi_range1 rfl ((He.free_ok X G (c.fact 22 (f := .free "range") rfl))) (pa_cons (pv 5) (pa_nil))) (blkOk_by (N := ["_law_script", "_law_blocks", "_law_pages", "_law_most", "_law_step", "_law_unlike", "_law_names", "_law_many", "_law_k"]) (sc := defScope st__law_race) (by decide +kernel)) (fun _ _ _ _ _ => pg_name (i := 8) sc__law_race.nd rfl (Or.inl rfl)) (fun _ _ _ _ _ => pts_nil) (fun _ _ _ _ _ => pe_op op_mod (pe_op op_add (pe_call G__law_drawn (hr.mono (by omega)) rfl ((He.glo_ok X G (c.fact 6 (f := .glo "_law_drawn") rfl))) KP__law_drawn B__law_drawn .nil pass0 (pa_cons (pv 0) (pa_cons (pe_int) (pa_nil)))) (pe_op op_mul (pv 4) (pv 8))) (pe_int)))) (pss_cons (ps_set (i := 7) sc__law_race.nd rfl (Or.inl rfl) (pe_op op_add (pe_op op_add (pv 3) (pe_int)) (pe_op op_mod (pe_op op_fdiv (pe_call G__law_drawn (hr.mono (by omega)) rfl ((He.glo_ok X G (c.fact 6 (f := .glo "_law_drawn") rfl))) KP__law_drawn B__law_drawn .nil pass0 (pa_cons (pv 0) (pa_cons (pe_int) (pa_nil)))) (pe_int)) (pe_int)))) (pss_cons (ps_if (pt_cmpR op_eq (pe_op op_mod (pe_call G__law_drawn (hr.mono (by omega)) rfl ((He.glo_ok X G (c.fact 6 (f := .glo "_law_drawn") rfl))) KP__law_drawn B__law_drawn .nil pass0 (pa_cons (pv 0) (pa_cons (pe_int) (pa_nil)))) (pe_int)) (pe_int) (nomark _)) (pss_one (ps_set (i := 7) sc__law_race.nd rfl (Or.inl rfl) (pe_op op_mod (pe_op op_fdiv (pe_call G__law_drawn (hr.mono (by omega)) rfl ((He.glo_ok X G (c.fact 6 (f := .glo "_law_drawn") rfl))) KP__law_drawn B__law_drawn .nil pass0 (pa_cons (pv 0) (pa_cons (pe_int) (pa_nil)))) (pe_int)) (pe_op op_add (pv 3) (pe_int))))) (pss_nil)) (pss_one (ps_ret (pe_lst (pa_cons (pv 1) (pa_cons (pv 2) (pa_cons (pe_lc (own := ([("_law_k", 8)] : List (Str × Nat))) (g := gName 8) (tt := tYes) rfl sc__law_race.nd (pi_range1 rfl ((He.free_ok X G (c.fact 22 (f := .free "range") rfl))) (pa_cons (pv 7) (pa_nil))) (blkOk_by (N := ["_law_script", "_law_blocks", "_law_pages", "_law_most", "_law_step", "_law_unlike", "_law_names", "_law_many", "_law_k"]) (sc := defScope st__law_race) (by decide +kernel)) (fun _ _ _ _ _ => pg_name (i := 8) sc__law_race.nd rfl (Or.inl rfl)) (fun _ _ _ _ _ => pts_nil) (fun _ _ _ _ _ => pe_ix ix_list (pv 6) (pe_op op_mod (pe_call G__law_drawn (hr.mono (by omega)) rfl ((He.glo_ok X G (c.fact 6 (f := .glo "_law_drawn") rfl))) KP__law_drawn B__law_drawn .nil pass0 (pa_cons (pv 0) (pa_cons (pe_op op_add (pe_int) (pv 8)) (pa_nil)))) (pv 5)) (fun _ _ => rfl))) (pa_nil)))))))))))))))

theorem sc__law_new : FnScope ["_law_blocks", "_law_pages", "_law_k"] ["_law_blocks", "_law_pages"] (defScope st__law_new) := ⟨rfl, rfl, rfl, by decide +kernel, rfl, by decide +kernel, by decide +kernel⟩
theorem ok__law_new (X : K.In h) (G : h.Ns mainGlobals mg) (c : He.SaysD fa fn K) : ∃ fd, FnOk P w K mg base CX0 1 (He.fAd K ("_law_new", none)) fd ["_law_blocks", "_law_pages"] (sp__law_new K) ∧ Binds K fd ["_law_blocks", "_law_pages"] [] ∧ PySem.W.keepIn K (.ref (He.fAd K ("_law_new", none))) = true := by
  obtain ⟨fd, F⟩ := c.def_ 16 (d := d__law_new) rfl
  have FD : FunD K "_law_new" "_law_new" (defArgs st__law_new) (defBody st__law_new) (defScope st__law_new) [] [] (He.fAd K ("_law_new", none)) fd := F
  refine ⟨fd, FD.ok (N := ["_law_blocks", "_law_pages", "_law_k"]) (k := 0) sc__law_new (fun vs H Q E h => by obtain ⟨_, _, _, hh⟩ := h.use; obtain ⟨_, _, e, _⟩ := hh; rw [e]; rfl) (fun cdv A outer s H vs Q E hr h => ⟨t__law_new K, PSs.nox ?_, pure__law_new h⟩), FD.bindsN fun _ _ _ _ _ _ us hl => match us, hl with | [_, _], _ => rfl, FD.kp⟩
  exact pss_one (ps_ret (pe_disp (pps_cons (pe_str) (pv 1) (pps_cons (pe_str) (pe_lc (own := ([("_law_k", 2)] : List (Str × Nat))) (g := gName 2) (tt := tYes) rfl sc__law_new.nd (pi_range1 rfl ((He.free_ok X G (c.fact 22 (f := .free "range") rfl))) (pa_cons (pv 0) (pa_nil))) (blkOk_by (N := ["_law_blocks", "_law_pages", "_law_k"]) (sc := defScope st__law_new) (by decide +kernel)) (fun _ _ _ _ _ => pg_name (i := 2) sc__law_new.nd rfl (Or.inl rfl)) (fun _ _ _ _ _ => pts_nil) (fun _ _ _ _ _ => pe_lst (pa_nil))) (pps_cons (pe_str) (pe_op op_rep (pe_lst (pa_cons (pe_int) (pa_nil))) (pv 0)) (pps_cons (pe_str) (pe_dnewK) (pps_cons (pe_str) (pe_int) (pps_nil)))))) (by rfl) (by rfl) (fun z => by cases z) (by decide)))

theorem sc__law_put : FnScope ["_law_state", "_law_sheet", "_law_held", "_law_begun", "_law_clear", "_law_k"] ["_law_state", "_law_sheet"] (defScope st__law_put) := ⟨rfl, rfl, rfl, by decide +kernel, rfl, by decide +kernel, by decide +kernel⟩
theorem ok__law_put (X : K.In h) (G : h.Ns mainGlobals mg) (c : He.SaysD fa fn K) : ∃ fd, FnOk P w K mg base CX0 1 (He.fAd K ("_law_put", none)) fd ["_law_state", "_law_sheet"] (sp__law_put K) ∧ Binds K fd ["_law_state", "_law_sheet"] [] ∧ PySem.W.keepIn K (.ref (He.fAd K ("_law_put", none))) = true := by
  obtain ⟨fd, F⟩ := c.def_ 17 (d := d__law_put) rfl
  have FD : FunD K "_law_put" "_law_put" (defArgs st__law_put) (defBody st__law_put) (defScope st__law_put) [] [] (He.fAd K ("_law_put", none)) fd := F
  refine ⟨fd, FD.ok (N := ["_law_state", "_law_sheet", "_law_held", "_law_begun", "_law_clear", "_law_k"]) (k := 0) sc__law_put (fun vs H Q E h => by obtain ⟨_, _, _, hh⟩ := h.use; obtain ⟨_, _, _, _, e, _⟩ := hh; rw [e]; rfl) (fun cdv A outer s H vs Q E hr h => ⟨t__law_put K, PSs.nox ?_, pure__law_put h⟩), FD.bindsN fun _ _ _ _ _ _ us hl => match us, hl with | [_, _], _ => rfl, FD.kp⟩
  exact pss_cons (ps_set (i := 2) sc__law_put.nd rfl (Or.inr rfl) (pe_dget (roomU hr) (pv 0) (pe_str) (fun _ _ => rfl))) (pss_cons (ps_setLc (i := 3) (own := ([("_law_k", 5)] : List (Str × Nat))) (g := gName 5) (tt := tChainT rLtI rLtI (tC (.int (0))) (tCB (rLenV K) (tCons (tOp (rIxL K) (tVar 2) (tVar 5)) (tNil))) (tDGet (tVar 0) (tC (.str "pages")))) rfl sc__law_put.nd rfl rfl (sw_true rfl rfl rfl (by decide +kernel)) (pi_range1 rfl ((He.free_ok X G (c.fact 22 (f := .free "range") rfl))) (pa_cons (pe_callB call_len (by rfl) ((He.free_ok X G (c.fact 20 (f := .free "len") rfl))) (by decide +kernel) (pa_cons (pv 2) (pa_nil))) (pa_nil))) (blkOk_by (N := ["_law_state", "_law_sheet", "_law_held", "_law_begun", "_law_clear", "_law_k"]) (sc := defScope st__law_put) (by decide +kernel)) (fun _ _ _ _ _ => pg_name (i := 5) sc__law_put.nd rfl (Or.inl rfl)) (fun _ _ _ _ _ => pts_one (pt_chain op_lt op_lt (pe_int) (pe_callB call_len (by rfl) ((He.free_ok X G (c.fact 20 (f := .free "len") rfl))) (by decide +kernel) (pa_cons (pe_ix ix_list (pv 2) (pv 5) (fun _ _ => rfl)) (pa_nil))) (pe_dget (roomU hr) (pv 0) (pe_str) (fun _ _ => rfl)))) (fun _ _ _ _ _ => pv 5)) (pss_cons (ps_if (pt_cmpR (op_eqD hr.units) (pv 3) (pe_lst (pa_nil)) (nomark _)) (pss_cons (ps_set (i := 4) sc__law_put.nd rfl (Or.inl rfl) (pe_callB cr_sortedPO (by rfl) ((He.free_ok X G (c.fact 24 (f := .free "sorted") rfl))) (by decide +kernel) (pa_cons (pe_lc (own := ([("_law_k", 5)] : List (Str × Nat))) (g := gName 5) (tt := tTest (tOp (rEqD K) (tOp (rIxL K) (tVar 2) (tVar 5)) (tLst (tNil)))) rfl sc__law_put.nd (pi_range1 rfl ((He.free_ok X G (c.fact 22 (f := .free "range") rfl))) (pa_cons (pe_callB call_len (by rfl) ((He.free_ok X G (c.fact 20 (f := .free "len") rfl))) (by decide +kernel) (pa_cons (pv 2) (pa_nil))) (pa_nil))) (blkOk_by (N := ["_law_state", "_law_sheet", "_law_held", "_law_begun", "_law_clear", "_law_k"]) (sc := defScope st__law_put) (by decide +kernel)) (fun _ _ _ _ _ => pg_name (i := 5) sc__law_put.nd rfl (Or.inl rfl)) (fun _ _ _ _ _ => pts_one (pt_cmpR (op_eqD hr.units) (pe_ix ix_list (pv 2) (pv 5) (fun _ _ => rfl)) (pe_lst (pa_nil)) (nomark _))) (fun _ _ _ _ _ => pe_tup (pa_cons (pe_ix ix_list (pe_dget (roomU hr) (pv 0) (pe_str) (fun _ _ => rfl)) (pv 5) (fun _ _ => rfl)) (pa_cons (pv 5) (pa_nil))))) (pa_nil)))) (pss_one (ps_set (i := 3) sc__law_put.nd rfl (Or.inl rfl) (pe_lst (pa_cons (pe_ix ix_tup (pe_ix ix_list (pv 4) (pe_int) (fun _ _ => rfl)) (pe_int) (fun _ _ => rfl)) (pa_nil)))))) (pss_nil)) (pss_cons (ps_daug (roomU hr) (pv 0) (pe_str) (pe_int) in_add (fun _ _ _ => rfl)) (pss_cons (ps_expr (pe_bm PySem.F.plainAttrs_list PySem.F.slot_list_append PySem.F.type_list_append mt_append (pe_ix ix_list (pv 2) (pe_ix ix_list (pv 3) (pe_int) (fun _ _ => rfl)) (fun _ _ => rfl)) (pa_cons (pe_tup (pa_cons (pv 1) (pa_cons (pe_dget (roomU hr) (pv 0) (pe_str) (fun _ _ => rfl)) (pa_nil)))) (pa_nil)))) (pss_one (ps_dput (roomU hr) (pe_dget (roomU hr) (pv 0) (pe_str) (fun _ _ => rfl)) (pv 1) (pe_dget (roomU hr) (pv 0) (pe_str) (fun _ _ => rfl)) rfl))))))

theorem sc__law_live : FnScope ["_law_state", "_law_block", "_law_sheet", "_law_stamp"] ["_law_state", "_law_block"] (defScope st__law_live) := ⟨rfl, rfl, rfl, by decide +kernel, rfl, by decide +kernel, by decide +kernel⟩
theorem ok__law_live (X : K.In h) (G : h.Ns mainGlobals mg) (c : He.SaysD fa fn K) : ∃ fd, FnOk P w K mg base CX0 1 (He.fAd K ("_law_live", none)) fd ["_law_state", "_law_block"] (sp__law_live K) ∧ Binds K fd ["_law_state", "_law_block"] [] ∧ PySem.W.keepIn K (.ref (He.fAd K ("_law_live", none))) = true := by
  obtain ⟨fd, F⟩ := c.def_ 18 (d := d__law_live) rfl
  have FD : FunD K "_law_live" "_law_live" (defArgs st__law_live) (defBody st__law_live) (defScope st__law_live) [] [] (He.fAd K ("_law_live", none)) fd := F
  refine ⟨fd, FD.ok (N := ["_law_state", "_law_block", "_law_sheet", "_law_stamp"]) (k := 0) sc__law_live (fun vs H Q E h => by obtain ⟨_, _, _, hh⟩ := h.use; obtain ⟨_, _, _, _, _, _, _, e, _⟩ := hh; rw [e]; rfl) (fun cdv A outer s H vs Q E hr h => ⟨t__law_live K, PSs.nox ?_, pure__law_live h⟩), FD.bindsN fun _ _ _ _ _ _ us hl => match us, hl with | [_, _], _ => rfl, FD.kp⟩
  exact pss_one (ps_ret (pe_lc (own := ([("_law_sheet", 2), ("_law_stamp", 3)] : List (Str × Nat))) (g := gTup K 2 (gCons (gName 2) (gCons (gName 3) (gNil)))) (tt := tTest (tOp rEq (tDGet (tDGet (tVar 0) (tC (.str "newest"))) (tVar 2)) (tVar 3))) rfl sc__law_live.nd (pi_list (pe_ix ix_list (pe_dget (roomU hr) (pv 0) (pe_str) (fun _ _ => rfl)) (pv 1) (fun _ _ => rfl))) (blkOk_by (N := ["_law_state", "_law_block", "_law_sheet", "_law_stamp"]) (sc := defScope st__law_live) (by decide +kernel)) (fun _ _ _ _ _ => pg_tup rfl (pgs_cons (pg_name (i := 2) sc__law_live.nd rfl (Or.inl rfl)) (pgs_cons (pg_name (i := 3) sc__law_live.nd rfl (Or.inl rfl)) (pgs_nil)))) (fun _ _ _ _ _ => pts_one (pt_cmpR op_eq (pe_dget (roomU hr) (pe_dget (roomU hr) (pv 0) (pe_str) (fun _ _ => rfl)) (pv 2) (fun _ _ => rfl)) (pv 3) (nomark _))) (fun _ _ _ _ _ => pv 2)))

theorem sc__law_short : FnScope ["_law_state", "_law_held", "_law_row"] ["_law_state"] (defScope st__law_short) := ⟨rfl, rfl, rfl, by decide +kernel, rfl, by decide +kernel, by decide +kernel⟩
theorem ok__law_short (X : K.In h) (G : h.Ns mainGlobals mg) (c : He.SaysD fa fn K) : ∃ fd, FnOk P w K mg base CX0 1 (He.fAd K ("_law_short", none)) fd ["_law_state"] (sp__law_short K) ∧ Binds K fd ["_law_state"] [] ∧ PySem.W.keepIn K (.ref (He.fAd K ("_law_short", none))) = true := by
  obtain ⟨fd, F⟩ := c.def_ 19 (d := d__law_short) rfl
  have FD : FunD K "_law_short" "_law_short" (defArgs st__law_short) (defBody st__law_short) (defScope st__law_short) [] [] (He.fAd K ("_law_short", none)) fd := F
  refine ⟨fd, FD.ok (N := ["_law_state", "_law_held", "_law_row"]) (k := 0) sc__law_short (fun vs H Q E h => by obtain ⟨_, _, _, hh⟩ := h.use; obtain ⟨_, _, e, _⟩ := hh; rw [e]; rfl) (fun cdv A outer s H vs Q E hr h => ⟨t__law_short K, PSs.nox ?_, pure__law_short h⟩), FD.bindsN fun _ _ _ _ _ _ us hl => match us, hl with | [_], _ => rfl, FD.kp⟩
  exact pss_cons (ps_set (i := 1) sc__law_short.nd rfl (Or.inl rfl) (pe_dget (roomU hr) (pv 0) (pe_str) (fun _ _ => rfl))) (pss_cons (ps_if (pt_cmpR op_gt (pe_callB call_len (by rfl) ((He.free_ok X G (c.fact 20 (f := .free "len") rfl))) (by decide +kernel) (pa_cons (pe_lc (own := ([("_law_row", 2)] : List (Str × Nat))) (g := gName 2) (tt := tTest (tOp (rEqD K) (tVar 2) (tLst (tNil)))) rfl sc__law_short.nd (pi_list (pv 1)) (blkOk_by (N := ["_law_state", "_law_held", "_law_row"]) (sc := defScope st__law_short) (by decide +kernel)) (fun _ _ _ _ _ => pg_name (i := 2) sc__law_short.nd rfl (Or.inl rfl)) (fun _ _ _ _ _ => pts_one (pt_cmpR (op_eqD hr.units) (pv 2) (pe_lst (pa_nil)) (nomark _))) (fun _ _ _ _ _ => pv 2)) (pa_nil))) (pe_int) (nomark _)) (pss_one (ps_ret (pe_bl))) (pss_nil)) (pss_one (ps_ret (pe_cmpR op_eq (pe_callB call_len (by rfl) ((He.free_ok X G (c.fact 20 (f := .free "len") rfl))) (by decide +kernel) (pa_cons (pe_lc (own := ([("_law_row", 2)] : List (Str × Nat))) (g := gName 2) (tt := tChainT rLtI rLtI (tC (.int (0))) (tCB (rLenV K) (tCons (tVar 2) (tNil))) (tDGet (tVar 0) (tC (.str "pages")))) rfl sc__law_short.nd (pi_list (pv 1)) (blkOk_by (N := ["_law_state", "_law_held", "_law_row"]) (sc := defScope st__law_short) (by decide +kernel)) (fun _ _ _ _ _ => pg_name (i := 2) sc__law_short.nd rfl (Or.inl rfl)) (fun _ _ _ _ _ => pts_one (pt_chain op_lt op_lt (pe_int) (pe_callB call_len (by rfl) ((He.free_ok X G (c.fact 20 (f := .free "len") rfl))) (by decide +kernel) (pa_cons (pv 2) (pa_nil))) (pe_dget (roomU hr) (pv 0) (pe_str) (fun _ _ => rfl)))) (fun _ _ _ _ _ => pv 2)) (pa_nil))) (pe_int) (nomark _)))))

theorem sc__law_ways : FnScope ["_law_state", "_law_found", "_law_block", "_law_row"] ["_law_state"] (defScope st__law_ways) := ⟨rfl, rfl, rfl, by decide +kernel, rfl, by decide +kernel, by decide +kernel⟩
theorem ok__law_ways (X : K.In h) (G : h.Ns mainGlobals mg) (c : He.SaysD fa fn K) : ∃ fd, FnOk P w K mg base CX0 2 (He.fAd K ("_law_ways", none)) fd ["_law_state"] (sp__law_ways K) ∧ Binds K fd ["_law_state"] [] ∧ PySem.W.keepIn K (.ref (He.fAd K ("_law_ways", none))) = true := by
  obtain ⟨fd__law_live, G__law_live, B__law_live, KP__law_live⟩ := ok__law_live (P := P) (w := w) (base := base) X G c
  obtain ⟨fd, F⟩ := c.def_ 20 (d := d__law_ways) rfl
  have FD : FunD K "_law_ways" "_law_ways" (defArgs st__law_ways) (defBody st__law_ways) (defScope st__law_ways) [] [] (He.fAd K ("_law_ways", none)) fd := F
  refine ⟨fd, FD.ok (N := ["_law_state", "_law_found", "_law_block", "_law_row"]) (k := 1) sc__law_ways (fun vs H Q E h => by obtain ⟨_, _, _, hh⟩ := h.use; obtain ⟨_, _, e, _⟩ := hh; rw [e]; rfl) (fun cdv A outer s H vs Q E hr h => ⟨t__law_ways K, PSs.nox ?_, pure__law_ways h⟩), FD.bindsN fun _ _ _ _ _ _ us hl => match us, hl with | [_], _ => rfl, FD.kp⟩
  exact pss_cons (ps_set (i := 1) sc__law_ways.nd rfl (Or.inl rfl) (pe_lst (pa_nil))) (pss_cons (ps_for PassesOwn.never rfl (pi_enum rfl ((He.free_ok X G (c.fact 25 (f := .free "enumerate") rfl))) (pa_cons (pe_dget (roomU hr) (pv 0) (pe_str) (fun _ _ => rfl)) (pa_nil))) (pg_tup rfl (pgs_cons (pg_name (i := 2) sc__law_ways.nd rfl (Or.inl rfl)) (pgs_cons (pg_name (i := 3) sc__law_ways.nd rfl (Or.inl rfl)) (pgs_nil)))) (pss_one (ps_if (PW.pt (pw_and (pt_cmpR op_eq (pe_callB call_len (by rfl) ((He.free_ok X G (c.fact 20 (f := .free "len") rfl))) (by decide +kernel) (pa_cons (pv 3) (pa_nil))) (pe_dget (roomU hr) (pv 0) (pe_str) (fun _ _ => rfl)) (nomark _)) (pw_and1 (pt_cmpR op_lt (pe_callB call_len (by rfl) ((He.free_ok X G (c.fact 20 (f := .free "len") rfl))) (by decide +kernel) (pa_cons (pe_call G__law_live (hr.mono (by omega)) rfl ((He.glo_ok X G (c.fact 7 (f := .glo "_law_live") rfl))) KP__law_live B__law_live .nil pass0 (pa_cons (pv 0) (pa_cons (pv 2) (pa_nil)))) (pa_nil))) (pe_callB call_len (by rfl) ((He.free_ok X G (c.fact 20 (f := .free "len") rfl))) (by decide +kernel) (pa_cons (pv 3) (pa_nil))) (nomark _))))) (pss_one (ps_expr (pe_bm PySem.F.plainAttrs_list PySem.F.slot_list_append PySem.F.type_list_append mt_append (pv 1) (pa_cons (pv 2) (pa_nil))))) (pss_nil)))) (pss_one (ps_ret (pv 1))))

theorem sc__law_cleared_out : FnScope ["_law_state", "_law_block", "_law_moved", "_law_sheet"] ["_law_state", "_law_block"] (defScope st__law_cleared_out) := ⟨rfl, rfl, rfl, by decide +kernel, rfl, by decide +kernel, by decide +kernel⟩
theorem ok__law_cleared_out (X : K.In h) (G : h.Ns mainGlobals mg) (c : He.SaysD fa fn K) : ∃ fd, FnOk P w K mg base CX0 2 (He.fAd K ("_law_cleared_out", none)) fd ["_law_state", "_law_block"] (sp__law_cleared_out K) ∧ Binds K fd ["_law_state", "_law_block"] [] ∧ PySem.W.keepIn K (.ref (He.fAd K ("_law_cleared_out", none))) = true := by
  obtain ⟨fd__law_live, G__law_live, B__law_live, KP__law_live⟩ := ok__law_live (P := P) (w := w) (base := base) X G c
  obtain ⟨fd__law_put, G__law_put, B__law_put, KP__law_put⟩ := ok__law_put (P := P) (w := w) (base := base) X G c
  obtain ⟨fd, F⟩ := c.def_ 21 (d := d__law_cleared_out) rfl
  have FD : FunD K "_law_cleared_out" "_law_cleared_out" (defArgs st__law_cleared_out) (defBody st__law_cleared_out) (defScope st__law_cleared_out) [] [] (He.fAd K ("_law_cleared_out", none)) fd := F
  refine ⟨fd, FD.ok (N := ["_law_state", "_law_block", "_law_moved", "_law_sheet"]) (k := 1) sc__law_cleared_out (fun vs H Q E h => by obtain ⟨_, _, _, hh⟩ := h.use; obtain ⟨_, _, _, _, e, _⟩ := hh; rw [e]; rfl) (fun cdv A outer s H vs Q E hr h => ⟨t__law_cleared_out K, PSs.nox ?_, pure__law_cleared_out h⟩), FD.bindsN fun _ _ _ _ _ _ us hl => match us, hl with | [_, _], _ => rfl, FD.kp⟩
  exact pss_cons (ps_set (i := 2) sc__law_cleared_out.nd rfl (Or.inl rfl) (pe_call G__law_live (hr.mono (by omega)) rfl ((He.glo_ok X G (c.fact 7 (f := .glo "_law_live") rfl))) KP__law_live B__law_live .nil pass0 (pa_cons (pv 0) (pa_cons (pv 1) (pa_nil))))) (pss_cons (ps_for PassesOwn.never rfl (pi_list (pv 2)) (pg_name (i := 3) sc__law_cleared_out.nd rfl (Or.inl rfl)) (pss_one (ps_expr (pe_call G__law_put (hr.mono (by omega)) rfl ((He.glo_ok X G (c.fact 8 (f := .glo "_law_put") rfl))) KP__law_put B__law_put .nil pass0 (pa_cons (pv 0) (pa_cons (pv 3) (pa_nil))))))) (pss_cons (ps_asg (pe_lst (pa_nil)) (pg_sub (pe_dget (roomU hr) (pv 0) (pe_str) (fun _ _ => rfl)) (pv 1) set_list)) (pss_cons (ps_augS (pe_dget (roomU hr) (pv 0) (pe_str) (fun _ _ => rfl)) (pv 1) get_list (pe_int) ip_add set_list) (pss_one (ps_ret (pe_callB call_len (by rfl) ((He.free_ok X G (c.fact 20 (f := .free "len") rfl))) (by decide +kernel) (pa_cons (pv 2) (pa_nil))))))))

theorem sc__law_way : FnScope ["_law_blocks", "_law_pages", "_law_row", "_law_picks", "_law_state", "_law_moves", "_law_chosen", "_law_sheet", "_law_ways_here", "_law_block"] ["_law_blocks", "_law_pages", "_law_row", "_law_picks"] (defScope st__law_way) := ⟨rfl, rfl, rfl, by decide +kernel, rfl, by decide +kernel, by decide +kernel⟩
theorem ok__law_way (X : K.In h) (G : h.Ns mainGlobals mg) (c : He.SaysD fa fn K) : ∃ fd, FnOk P w K mg base CX0 3 (He.fAd K ("_law_way", none)) fd ["_law_blocks", "_law_pages", "_law_row", "_law_picks"] (sp__law_way K) ∧ Binds K fd ["_law_blocks", "_law_pages", "_law_row", "_law_picks"] [] ∧ PySem.W.keepIn K (.ref (He.fAd K ("_law_way", none))) = true := by
  obtain ⟨fd__law_new, G__law_new, B__law_new, KP__law_new⟩ := ok__law_new (P := P) (w := w) (base := base) X G c
  obtain ⟨fd__law_short, G__law_short, B__law_short, KP__law_short⟩ := ok__law_short (P := P) (w := w) (base := base) X G c
  obtain ⟨fd__law_ways, G__law_ways, B__law_ways, KP__law_ways⟩ := ok__law_ways (P := P) (w := w) (base := base) X G c
  obtain ⟨fd__law_cleared_out, G__law_cleared_out, B__law_cleared_out, KP__law_cleared_out⟩ := ok__law_cleared_out (P := P) (w := w) (base := base) X G c
  obtain ⟨fd__law_put, G__law_put, B__law_put, KP__law_put⟩ := ok__law_put (P := P) (w := w) (base := base) X G c
  obtain ⟨fd, F⟩ := c.def_ 22 (d := d__law_way) rfl
  have FD : FunD K "_law_way" "_law_way" (defArgs st__law_way) (defBody st__law_way) (defScope st__law_way) [] [] (He.fAd K ("_law_way", none)) fd := F
  refine ⟨fd, FD.ok (N := ["_law_blocks", "_law_pages", "_law_row", "_law_picks", "_law_state", "_law_moves", "_law_chosen", "_law_sheet", "_law_ways_here", "_law_block"]) (k := 2) sc__law_way (fun vs H Q E h => by obtain ⟨_, _, _, hh⟩ := h.use; obtain ⟨_, _, _, _, _, _, _, _, e, _⟩ := hh; rw [e]; rfl) (fun cdv A outer s H vs Q E hr h => ⟨t__law_way K, PSs.nox ?_, pure__law_way h⟩), FD.bindsN fun _ _ _ _ _ _ us hl => match us, hl with | [_, _, _, _], _ => rfl, FD.kp⟩
  exact pss_cons (ps_set (i := 4) sc__law_way.nd rfl (Or.inl rfl) (pe_call G__law_new (hr.mono (by omega)) rfl ((He.glo_ok X G (c.fact 9 (f := .glo "_law_new") rfl))) KP__law_new B__law_new .nil pass0 (pa_cons (pv 0) (pa_cons (pv 1) (pa_nil))))) (pss_cons (ps_set (i := 5) sc__law_way.nd rfl (Or.inl rfl) (pe_int)) (pss_cons (ps_set (i := 6) sc__law_way.nd rfl (Or.inl rfl) (pe_lst (pa_nil))) (pss_cons (ps_for PassesOwn.never rfl (pi_list (pv 2)) (pg_name (i := 7) sc__law_way.nd rfl (Or.inl rfl)) (pss_cons (ps_if (pt_val (pe_call G__law_short (hr.mono (by omega)) rfl ((He.glo_ok X G (c.fact 10 (f := .glo "_law_short") rfl))) KP__law_short B__law_short .nil pass0 (pa_cons (pv 4) (pa_nil)))) (pss_cons (ps_set (i := 8) sc__law_way.nd rfl (Or.inl rfl) (pe_call G__law_ways (hr.mono (by omega)) rfl ((He.glo_ok X G (c.fact 11 (f := .glo "_law_ways") rfl))) KP__law_ways B__law_ways .nil pass0 (pa_cons (pv 4) (pa_nil)))) (pss_cons (ps_set (i := 9) sc__law_way.nd rfl (Or.inl rfl) (pe_ix ix_list (pv 8) (pe_op op_mod (pe_ix ix_list (pv 3) (pe_callB call_len (by rfl) ((He.free_ok X G (c.fact 20 (f := .free "len") rfl))) (by decide +kernel) (pa_cons (pv 6) (pa_nil))) (fun _ _ => rfl)) (pe_callB call_len (by rfl) ((He.free_ok X G (c.fact 20 (f := .free "len") rfl))) (by decide +kernel) (pa_cons (pv 8) (pa_nil)))) (fun _ _ => rfl))) (pss_cons (ps_aug (i := 5) sc__law_way.nd rfl (Or.inl rfl) (pe_call G__law_cleared_out (hr.mono (by omega)) rfl ((He.glo_ok X G (c.fact 12 (f := .glo "_law_cleared_out") rfl))) KP__law_cleared_out B__law_cleared_out .nil pass0 (pa_cons (pv 4) (pa_cons (pv 9) (pa_nil)))) ip_add) (pss_one (ps_expr (pe_bm PySem.F.plainAttrs_list PySem.F.slot_list_append PySem.F.type_list_append mt_append (pv 6) (pa_cons (pv 9) (pa_nil)))))))) (pss_nil)) (pss_one (ps_expr (pe_call G__law_put (hr.mono (by omega)) rfl ((He.glo_ok X G (c.fact 8 (f := .glo "_law_put") rfl))) KP__law_put B__law_put .nil pass0 (pa_cons (pv 4) (pa_cons (pv 7) (pa_nil)))))))) (pss_one (ps_ret (pe_tup (pa_cons (pv 5) (pa_cons (pv 6) (pa_nil)))))))))

theorem sc_law : FnScope ["_law_script", "_law_blocks", "_law_pages", "_law_row", "_law_found", "_law_turn", "_law_picks", "_law_k"] ["_law_script"] (defScope st_law) := ⟨rfl, rfl, rfl, by decide +kernel, rfl, by decide +kernel, by decide +kernel⟩
theorem ok_law {N : Nat} (M : RaceLaw N) (hN : N ≤ 20) (X : K.In h) (G : h.Ns mainGlobals mg) (c : He.SaysD fa fn K) : ∃ fd, (∀ (s : Shared) (v : Value), BindsTo s fd ⟨[v], []⟩ [("_law_script", v)]) ∧ ∀ base : Heap, FnOk P w K mg base CX0 26 (He.fAd K ("law", none)) fd ["_law_script"] (sp_law K) := by
  obtain ⟨fd, F⟩ := c.def_ 23 (d := d_law) rfl
  have FD : FunD K "law" "law" (defArgs st_law) (defBody st_law) (defScope st_law) [] [] (He.fAd K ("law", none)) fd := F
  refine ⟨fd, fun s v => (FunD.bindsA (ps := ["_law_script"]) FD fun _ _ _ _ _ _ us hl => match us, hl with | [_], _ => rfl) s [v] rfl, fun base => ?_⟩
  obtain ⟨fd__law_race, G__law_race, B__law_race, KP__law_race⟩ := ok__law_race (P := P) (w := w) (base := base) X G c
  obtain ⟨fd_least_moves, G_least_moves, B_least_moves, KP_least_moves⟩ := ok_least_moves (P := P) (w := w) (base := base) (N := N) hN X G c
  obtain ⟨fd__law_drawn, G__law_drawn, B__law_drawn, KP__law_drawn⟩ := ok__law_drawn (P := P) (w := w) (base := base) X G c
  obtain ⟨fd__law_way, G__law_way, B__law_way, KP__law_way⟩ := ok__law_way (P := P) (w := w) (base := base) X G c
  refine FD.ok (N := ["_law_script", "_law_blocks", "_law_pages", "_law_row", "_law_found", "_law_turn", "_law_picks", "_law_k"]) (k := 25) sc_law (fun vs H Q E h => by obtain ⟨_, _, _, hh⟩ := h.use; obtain ⟨_, _, e, _⟩ := hh; rw [e]; rfl) (fun cdv A outer s H vs Q E hr h => ⟨t_law K N, PSs.nox ?_, pure_law M h⟩)
  exact pss_cons (ps_asg (pe_call G__law_race (hr.mono (by omega)) rfl ((He.glo_ok X G (c.fact 13 (f := .glo "_law_race") rfl))) KP__law_race B__law_race .nil pass0 (pa_cons (pv 0) (pa_nil))) (pg_unl rfl (pgs_cons (pg_name (i := 1) sc_law.nd rfl (Or.inl rfl)) (pgs_cons (pg_name (i := 2) sc_law.nd rfl (Or.inl rfl)) (pgs_cons (pg_name (i := 3) sc_law.nd rfl (Or.inl rfl)) (pgs_nil)))))) (pss_cons (ps_set (i := 4) sc_law.nd rfl (Or.inl rfl) (pe_call G_least_moves (hr.mono (by omega)) rfl ((He.glo_ok X G (c.fact 14 (f := .glo "least_moves") rfl))) KP_least_moves B_least_moves .nil pass0 (pa_cons (pv 1) (pa_cons (pv 2) (pa_cons (pe_callTy call_list_of (by rfl) ((He.free_ok X G (c.fact 23 (f := .free "list") rfl))) (by decide +kernel) (pa_cons (pv 3) (pa_nil))) (pa_nil)))))) (pss_cons (ps_for PassesOwn.never rfl (pi_range1 rfl ((He.free_ok X G (c.fact 22 (f := .free "range") rfl))) (pa_cons (pe_int) (pa_nil))) (pg_name (i := 5) sc_law.nd rfl (Or.inr rfl)) (pss_cons (ps_setLc (i := 6) (own := ([("_law_k", 7)] : List (Str × Nat))) (g := gName 7) (tt := tYes) rfl sc_law.nd rfl rfl (sw_true rfl rfl rfl (by decide +kernel)) (pi_range1 rfl ((He.free_ok X G (c.fact 22 (f := .free "range") rfl))) (pa_cons (pe_int) (pa_nil))) (blkOk_by (N := ["_law_script", "_law_blocks", "_law_pages", "_law_row", "_law_found", "_law_turn", "_law_picks", "_law_k"]) (sc := defScope st_law) (by decide +kernel)) (fun _ _ _ _ _ => pg_name (i := 7) sc_law.nd rfl (Or.inl rfl)) (fun _ _ _ _ _ => pts_nil) (fun _ _ _ _ _ => pe_call G__law_drawn (hr.mono (by omega)) rfl ((He.glo_ok X G (c.fact 6 (f := .glo "_law_drawn") rfl))) KP__law_drawn B__law_drawn .nil pass0 (pa_cons (pv 0) (pa_cons (pe_op op_add (pe_op op_add (pe_int) (pe_op op_mul (pe_int) (pv 5))) (pv 7)) (pa_nil))))) (pss_one (ps_if (pt_cmpR (op_ltD hr.units) (pe_call G__law_way (hr.mono (by omega)) rfl ((He.glo_ok X G (c.fact 15 (f := .glo "_law_way") rfl))) KP__law_way B__law_way .nil pass0 (pa_cons (pv 1) (pa_cons (pv 2) (pa_cons (pv 3) (pa_cons (pv 6) (pa_nil)))))) (pv 4) (nomark _)) (pss_one (ps_ret (pe_bl))) (pss_nil))))) (pss_one (ps_ret (pe_bl)))))

end
end HT
open PySem PySem.W PySem.Calls PyProof.Rows
theorem PySem.Challenge.cw_wornpages_k73_whole_no_way_is_less_holds : PySem.Challenge.rw_wornpages_k73_whole_no_way_is_less.Holds := by
  w_on; o_law
  refine HandSHeadRun.head_any (r := OpenLaw.row PySem.Challenge.rw_wornpages_k73_whole_no_way_is_less) (q := view (OpenLaw.row PySem.Challenge.rw_wornpages_k73_whole_no_way_is_less).prog [22]) (H := HT.hk) (ob := HT.ob) (M := 20000) (loose := HT.names) (d := HandSHeadRun.topDef (OpenLaw.row PySem.Challenge.rw_wornpages_k73_whole_no_way_is_less).prog 22) (kwd := []) HT.ob_eq
    (by kernel_rfl) (fun s => by kernel_rfl) HT.run (by kernel_rfl) (by kernel_rfl) (by kernel_rfl) (by rfl) (by first | assumption | decide +kernel) (by decide +kernel) ⟨rfl, rfl, rfl, rfl, rfl, by decide +kernel⟩ ?hw ?hc
  case hw => w_witness2
  case hc =>
    refine L2.walk_ofE (l := PySem.Challenge.rw_wornpages_k73_whole_no_way_is_less) (n := 63) (k := 26) (x := "_law_script") (CX := L2.CX0) rfl (by decide) (by kernel_rfl) ⟨rfl, by decide, by decide⟩ ?F (fun _ _ _ _ z => z)
    intro w mg fa h Y G hmg0
    obtain ⟨K, KX, c⟩ := Y
    have hmg : mg ("law" : PySem.Str) = some (.ref fa) := by
      have e : (HandSHeadRun.topDef (OpenLaw.row PySem.Challenge.rw_wornpages_k73_whole_no_way_is_less).prog 22).name = ("law" : PySem.Str) := by kernel_rfl
      rw [← e]
      exact hmg0
    have e := hmg.symm.trans (He.glo_ok KX G (c.fact 16 (f := .glo "law") rfl))
    cases e
    obtain ⟨fd, hb, F2⟩ := HT.ok_law (P := (PySem.Challenge.rw_wornpages_k73_whole_no_way_is_less).prog) (w := w) Wn.race_law (by omega) KX G c
    exact ⟨K, fd, Wn.sp_law K, KX, hb, fun H a ns hl _ hS => ⟨_, [(a, Wn.seqO K (ns.map L2.V.int))], [], Wn.Rel.ofSq hS, .cons .here .nil, a, ns, rfl, rfl, by omega, fun _ _ => rfl⟩, fun base _ _ => F2 base⟩
